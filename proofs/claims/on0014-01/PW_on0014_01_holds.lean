import PyProof.Rows.All
import Wide.All
import OpenK.AllK
import Wide.FinOn
import Lean
import PySem.Challenge.RW_on0014_01
open PySem PySem.W PyProof.Rows PySem.Calls
set_option Elab.async false
set_option maxRecDepth 100000
set_option maxHeartbeats 8000000
set_option linter.all false
set_option pp.maxSteps 300
set_option pp.deepTerms false
namespace Mine
noncomputable def viewP : Program := { PySem.Challenge.pw_on0014_01 with main := { PySem.Challenge.pw_on0014_01.main with body := match PySem.Challenge.pw_on0014_01.main.body with
  | [a0, _, a2, a3, a4, _, a6, a7, a8, a9, a10, a11, a12, _, a14, a15, a16, a17, a18, a19, a20, a21, a22, a23, a24] => [a0, a2, a3, a4, a6, a7, a8, a9, a10, a11, a12, a14, a15, a16, a17, a18, a19, a20, a21, a22, a23, a24]
  | _ => [] } }
theorem said_ok : PySem.Challenge.rw_on0014_01.wellSaid = true := (congrFun Fast.te9446332074065402090 _).trans (by kernel_rfl)
theorem law_q (h : PySem.Challenge.rw_on0014_01.row.Holds) : PySem.Challenge.rw_on0014_01.Holds := holds_law said_ok fun _ => h
theorem head_q (H : Hook) {d : DefRec} {kwd : List (Str × PySem.Expr)} (left : LeftO PySem.Challenge.rw_on0014_01.row.prog viewP [] (fun s => xlAt viewP [] s && recOk (RowW.records (OpenRow.toRowW PySem.Challenge.rw_on0014_01.row)) s) H.obs H.val 3688) (hdef : defOf viewP PySem.Challenge.rw_on0014_01.row.name = some (d, kwd)) (hp : PySem.Challenge.rw_on0014_01.row.prog.theDef PySem.Challenge.rw_on0014_01.row.name = some (d.params, d.body, d.scope)) (hk : kwWritten? d.params.kwonlyargs d.params.kw_defaults = some kwd) (hw : PySem.Challenge.rw_on0014_01.row.toRowW.promised) (hc : WalkO viewP [] (XL viewP []) H.says PySem.Challenge.rw_on0014_01.row.toRowW d kwd fun f vs => PySem.call f vs) : PySem.Challenge.rw_on0014_01.row.Holds :=
  holds_open (q := viewP) (loose := []) (Xt := (fun s => xlAt viewP [] s && recOk (RowW.records (OpenRow.toRowW PySem.Challenge.rw_on0014_01.row)) s)) (XP := XL viewP []) (Yf := H.obs) (Ya := H.val) (YP := H.says) (N := 3688) left H.of H.keeps (fun s e => xl_of s (Bool.and_eq_true_iff.mp e).1) XL.keeps hdef hp hk (fun s e => recFacts_of (Bool.and_eq_true_iff.mp e).2) rfl (row_said said_ok) (by decide +kernel) ⟨rfl, rfl, rfl, rfl, rfl, by decide +kernel⟩ hw hc
local macro_rules | `(tactic| o_head $H) => `(tactic| refine head_q $H (fun w => by delta openEnds topFrom fencedOpening; rw [Fast.te10274390034422433532, Fast.te14289696077712309145, Fast.te14364793385576792824, Fast.te14082659384304107361, Fast.te4187177175401517315]; kernel_rfl) (by rfl) (by rfl) (by rfl) ?hw ?hc)
local macro_rules | `(tactic| o_law) => `(tactic| apply law_q)
open_top hd for PySem.Challenge.rw_on0014_01
theorem ar0 {a : Nat} {b : Nat} (h1 : a < b + 1) (h2 : ¬a < b) : a = b := Nat.le_antisymm (Nat.le_of_lt_succ h1) (Nat.le_of_not_lt h2)
theorem ar1 {a : Nat} {b : Nat} (h1 : a ≤ b) : a ≤ b := h1
theorem ar2 {a : Nat} {b : Nat} {c : Nat} {d : Nat} (h1 : a + b ≤ c) (h2 : d < b) : a + d < c := Nat.lt_of_lt_of_le (Nat.add_lt_add_left h2 _) h1
theorem ar3 {a : Nat} (h1 : a ≤ 160) : a ≤ 1000 := Nat.le_trans h1 (by decide)
theorem ar4 {a : Nat} (h1 : a ≤ 1000) : a ≤ 16777216 := Nat.le_trans h1 (by decide)
theorem ar5 {a : Nat} (h1 : a ≤ 4) : a ≤ 10 := Nat.le_trans h1 (by decide)
theorem ar6 : 1 ≤ 1 := by decide
theorem ar7 {a : Nat} (h1 : a ≤ 17) : a ≤ 18 := Nat.le_succ_of_le h1
theorem ar8 : 0 ≤ 0 ∧ 0 < 4 := by decide
theorem ar9 {a : Int}  : a ≤ a + 1 := Int.le.intro 1 rfl
theorem ar10 {a : Nat} (h1 : 1 ≤ a) : 0 < a := h1
theorem ar11 {a : Nat} (h1 : a < 1) : a = 0 := Nat.lt_one_iff.mp h1
theorem ar12 {a : Nat} {b : Nat}  : a ≤ a + b := Nat.le_add_right _ _
theorem ar13 {a : Nat} {b : Nat} (h1 : a = b + 1) : 0 < a := Nat.lt_of_sub_eq_succ h1
theorem ar14 {a : Nat} {b : Nat} (h1 : a ≤ b) : a ≤ b + 1 := Nat.le_succ_of_le h1
theorem ar15 {a : Nat} {b : Nat} (h1 : ¬((↑a : Int) < 0 ∨ (↑b : Int) ≤ (↑a : Int))) : a < b := Int.ofNat_lt.mp (Int.not_le.mp fun q => h1 (.inr q))
theorem ar16 {a : Nat} {b : Nat} (h1 : ¬a < b) : b ≤ a := Nat.le_of_not_lt h1
theorem ar17 {a : Nat} {b : Nat} (h1 : ¬a = 0) (h2 : b = a) : 0 < b := Nat.pos_of_ne_zero (by rw [h2]; exact h1)
theorem ar18 {a : Nat} {b : Nat} {c : Nat} (h1 : a < b + (c + 1)) (h2 : ¬a < b + c) : a = b + c := Nat.le_antisymm (Nat.le_of_lt_succ h1) (Nat.le_of_not_lt h2)
theorem ar19 : 0 ≤ 0 := by decide
theorem ar20 : 0 ≤ 1 := by decide
theorem ar21 {a : Int} (h1 : 0 ≤ a) : 0 ≤ a := h1
theorem ar22 {a : Int} {b : Int} (h1 : a > b) (h2 : 0 ≤ b) : a ≠ 0 := Int.ne_of_gt (Int.lt_of_le_of_lt h2 h1)
theorem ar23 {a : Int} {b : Nat} (h1 : a < 0 ∨ (↑(b + 1) : Int) ≤ a) : a < 0 ∨ (↑b : Int) ≤ a := h1.imp id fun q => Int.le_trans (Int.ofNat_le.mpr (Nat.le_succ b)) q
theorem ar24 {a : Nat}  : a ≤ a := Nat.le_refl _
theorem ar25 {a : Nat} (h1 : 0 < a) : a - 1 < a := Nat.sub_lt h1 (by decide)
theorem ar26 {a : Nat} (h1 : a ≤ 100000) : a ≤ 16777216 := Nat.le_trans h1 (by decide)
theorem ar27 {a : Nat} (h1 : a ≤ 4) : a ≤ 100 := Nat.le_trans h1 (by decide)
theorem ar28 {a : Nat} (h1 : a ≤ 4) : a ≤ 900 := Nat.le_trans h1 (by decide)
theorem ar29 {a : Nat} {b : Nat} (h1 : a + 20 < b) : a + 3 + 4 < b := Nat.lt_of_le_of_lt (show a + 3 + 4 ≤ a + 20 from Nat.add_le_add_left (by decide : 7 ≤ 20) a) h1
theorem ar30 {a : Nat} {b : Nat} (h1 : a + 4 < b) : a + 1 < b := Nat.lt_of_le_of_lt (Nat.add_le_add_left (by decide : _ ≤ _) _) h1
theorem ar31 {a : Nat} {b : Nat} (h1 : a ≤ 1000) (h2 : b = a) : b ≤ 100000 := Nat.le_trans (Nat.le_of_eq h2) (Nat.le_trans h1 (by decide))
theorem ar32 {a : Nat} {b : Nat} (h1 : a ≤ 4) (h2 : b ≤ 4) : a + b ≤ 900 := Nat.le_trans (Nat.add_le_add h1 h2) (by decide)
theorem ar33 {a : Nat} {b : Nat} (h1 : a ≤ 800 * b) : a ≤ 800 * (b + 1) := Nat.le_trans h1 (Nat.mul_le_mul_left 800 (Nat.le_succ b))
theorem ar34 {a : Nat} {b : Nat} (h1 : a ≤ b) (h2 : ¬a = b) : a < b := Nat.lt_of_le_of_ne h1 h2
theorem ar35 {a : Nat} {b : Nat} {c : Nat} (h1 : 1 ≤ a) (h2 : a ≤ b) : c + b - 1 < c + b := Nat.sub_lt (Nat.lt_of_lt_of_le (Nat.lt_of_lt_of_le h1 h2) (Nat.le_add_left b c)) Nat.one_pos
theorem ar36 {a : Nat} {b : Nat} {c : Nat} (h1 : a ≤ b + c) : a ≤ b + (c + 1) := Nat.le_succ_of_le h1
theorem ar37 {a : Nat} {b : Nat} {c : Nat} (h1 : a ≤ b + c) (h2 : ¬a = b + c) : a ≤ b + c - 1 := Nat.le_sub_one_of_lt (Nat.lt_of_le_of_ne h1 h2)
theorem ar38 {a : Nat} {b : Nat} {c : Nat} (h1 : a ≤ b) : c + a ≤ c + b := Nat.add_le_add_left h1 _
theorem ar39 {a : Nat} {b : Nat} {c : Nat} (h1 : ¬a - b = 0) (h2 : c = a - b) : c - 1 < c := Nat.sub_lt (Nat.pos_of_ne_zero fun q => h1 (h2 ▸ q)) Nat.one_pos
theorem ar40 {a : Nat} {b : Nat} {c : Nat} {d : Nat} (h1 : a + b ≤ c) (h2 : d < b) : a + d - 1 < c := Nat.lt_of_le_of_lt (Nat.sub_le _ _) (Nat.lt_of_lt_of_le (Nat.add_lt_add_left h2 a) h1)
theorem ar41 {a : Nat} {b : Nat} {c : Nat} {d : Nat} (h1 : a + b ≤ c) (h2 : d ≤ b) : a + d ≤ c := Nat.le_trans (Nat.add_le_add_left h2 _) h1
theorem ar42 {a : Nat} {b : Nat} {c : Nat} {d : Nat} {e : Nat} (h1 : 0 < a) (h2 : b = c + (d + (a + e))) : c + d < b := h2 ▸ Nat.add_lt_add_left (Nat.lt_add_of_pos_right (Nat.add_pos_left h1 e)) c
theorem ar43 : 0 + 1 ≤ 1 := by decide
theorem ar44 : 0 < 1 := by decide
theorem ar45 {a : Int} (h1 : 0 ≤ a) (h2 : 0 > a) : False := absurd h1 (Int.not_le.mpr h2)
theorem ar46 {a : Int} (h1 : 1 ≤ a) : 0 ≤ a := Int.le_of_lt h1
theorem ar47 {a : Int} {b : Int} (h1 : 0 ≤ a) : 0 ≤ max a b := Int.le_trans h1 (Int.le_max_left a b)
theorem ar48 {a : Int} {b : Int} (h1 : a < b) : b > a := h1
theorem ar49 {a : Int} {b : Int} (h1 : a > b) (h2 : 1 ≤ a ∧ a ≤ b) : False := absurd h2.2 (Int.not_le.mpr h1)
theorem ar50 {a : Int} {b : Int} (h1 : a ≤ b) : a ≤ b + 1 := Int.le_add_one h1
theorem ar51 {a : Int} {b : Int} (h1 : ¬a < b) : ¬b > a := h1
theorem ar52 {a : Int} {b : Int} {c : Int} (h1 : a ≤ b) (h2 : c ≤ b) : max a c ≤ b := Int.max_le.mpr ⟨h1, h2⟩
theorem ar53 {a : Int} {b : Nat} (h1 : a < 0 ∨ 4 ≤ a) (h2 : b ≤ 4) : a < 0 ∨ (↑b : Int) ≤ a := h1.imp id fun q => Int.le_trans (Int.ofNat_le.mpr h2) q
theorem ar54 {a : Int} {b : Nat} (h1 : ¬(a < 0 ∨ (↑b : Int) ≤ a)) : 0 ≤ a := Int.not_lt.mp fun q => h1 (.inl q)
theorem ar55 {a : Nat}  : (↑a : Int) < 0 ∨ (↑a : Int) ≤ (↑a : Int) := .inr (Int.le_refl _)
theorem ar56 {a : Nat}  : 0 + 1 ≤ a + 1 := Nat.le_add_left _ _
theorem ar57 {a : Nat}  : 0 < a + 1 := Nat.le_add_left _ _
theorem ar58 {a : Nat}  : 0 ≤ a := Nat.le_add_left _ _
theorem ar59 {a : Nat}  : 1 ≤ a + 1 := Nat.le_add_left _ _
theorem ar60 {a : Nat}  : 20 + 40 * a + 2 ≤ 20 + 40 * (a + 1) := show 20 + 40 * a + 2 ≤ 20 + 40 * a + 40 from Nat.add_le_add_left (by decide) _
theorem ar61 {a : Nat}  : 4 + 2 * (↑a : Int) ≤ 4 + 2 * ((↑a : Int) + 1) := Int.add_le_add_left (Int.mul_le_mul_of_nonneg_left (Int.le_of_lt (Int.lt_succ _)) (by decide)) 4
theorem ar62 {a : Nat}  : a + 1 ≤ a + 1 := Nat.le_refl _
theorem ar63 {a : Nat}  : a < 2 * a + 1 := Nat.lt_succ_of_le (Nat.le_mul_of_pos_left a (by decide))
theorem ar64 {a : Nat} (h1 : a + 1 ≤ 1000) : a + 1 ≤ 1000 := h1
theorem ar65 {a : Nat} (h1 : a + 1 ≤ 1000) : a ≤ 1000 := Nat.le_of_lt h1
theorem ar66 {a : Nat} (h1 : a ≤ 10) : a ≤ 100 := Nat.le_trans h1 (by decide)
theorem ar67 {a : Nat} (h1 : a ≤ 1000) : (↑a : Int) < 9223372036854775808 := Int.ofNat_lt.mpr (Nat.lt_of_le_of_lt h1 (by decide : 1000 < 9223372036854775808))
theorem ar68 {a : Nat} (h1 : a ≤ 160) : a ≤ 999 := Nat.le_trans h1 (by decide)
theorem ar69 {a : Nat} (h1 : a ≤ 17) : 20 + 40 * a + 1 ≤ 1000 := Nat.le_trans (Nat.succ_le_succ (Nat.add_le_add_left (Nat.mul_le_mul_left 40 h1) 20)) (by decide)
theorem ar70 {a : Nat} (h1 : a ≤ 17) : a ≤ 1000 := Nat.le_trans h1 (by decide)
theorem ar71 {a : Nat} (h1 : a ≤ 3) : a ≤ 10 := Nat.le_trans h1 (by decide)
theorem ar72 {a : Nat} (h1 : a ≤ 4 * 4) : a ≤ 1000 := Nat.le_trans h1 (by decide)
theorem ar73 {a : Nat} (h1 : ¬a - 1 = 1) (h2 : 1 < a) : 1 < a - 1 := Nat.lt_of_le_of_ne (Nat.le_sub_one_of_lt h2) (Ne.symm h1)
theorem ar74 {a : Nat} {b : Nat}  : min a b ≤ b := Nat.min_le_right _ _
theorem ar75 {a : Nat} {b : Nat} (h1 : 1 ≤ a) (h2 : b = a) : 0 < b := Nat.lt_of_lt_of_le h1 (Nat.le_of_eq (h2).symm)
theorem ar76 {a : Nat} {b : Nat} (h1 : a + 1 ≤ b) : 1 ≤ b := Nat.le_trans (Nat.le_add_left _ _) h1
theorem ar77 {a : Nat} {b : Nat} (h1 : a + 1 ≤ b) : a + 1 + 1 ≤ 2 * b + 1 := Nat.succ_le_succ (Nat.le_trans h1 (Nat.le_mul_of_pos_left b (by decide)))
theorem ar78 {a : Nat} {b : Nat} (h1 : a + 1 ≤ b) : a < b := h1
theorem ar79 {a : Nat} {b : Nat} (h1 : a + b ≤ 1000) : b ≤ 10000 := Nat.le_trans (Nat.le_add_left b a) (Nat.le_trans h1 (by decide))
theorem ar80 {a : Nat} {b : Nat} (h1 : a < b) : (↑a : Int) ≠ (↑b : Int) := fun q => Nat.ne_of_lt h1 (Int.ofNat_inj.mp q)
theorem ar81 {a : Nat} {b : Nat} (h1 : a < b) : a ≤ b := Nat.le_of_lt h1
theorem ar82 {a : Nat} {b : Nat} (h1 : a = b) : b ≤ a := Nat.le_of_eq (h1).symm
theorem ar83 {a : Nat} {b : Nat} (h1 : a ≤ 10) (h2 : b ≤ 10) : b + a ≤ 1000 := Nat.le_trans (Nat.add_le_add h2 h1) (by decide)
theorem ar84 {a : Nat} {b : Nat} (h1 : a ≤ 100) (h2 : b = a) : b ≤ 16777216 := Nat.le_trans (Nat.le_of_eq h2) (Nat.le_trans h1 (by decide))
theorem ar85 {a : Nat} {b : Nat} (h1 : a ≤ 1000) (h2 : b ≤ a) : b ≤ 100000 := Nat.le_trans (Nat.le_trans h2 h1) (by decide)
theorem ar86 {a : Nat} {b : Nat} (h1 : a ≤ 18) (h2 : b ≤ 4 * (4 + 2 * a)) : b ≤ 160 := Nat.le_trans h2 (Nat.le_trans (Nat.mul_le_mul_left 4 (Nat.add_le_add_left (Nat.mul_le_mul_left 2 h1) 4)) (by decide))
theorem ar87 {a : Nat} {b : Nat} (h1 : a ≤ 20) (h2 : b ≤ a) : b ≤ 1000 := Nat.le_trans (Nat.le_trans h2 h1) (by decide)
theorem ar88 {a : Nat} {b : Nat} (h1 : a ≤ 3) (h2 : b ≤ 3) : a + b ≤ 1000 := Nat.le_trans (Nat.add_le_add h1 h2) (by decide)
theorem ar89 {a : Nat} {b : Nat} (h1 : a ≤ 4) (h2 : (↑b : Int) < (↑a : Int)) : 0 ≤ (↑b : Int) ∧ (↑b : Int) < 4 := ⟨Int.natCast_nonneg b, Int.lt_of_lt_of_le h2 (Int.ofNat_le.mpr h1)⟩
theorem ar90 {a : Nat} {b : Nat} (h1 : a ≤ 4) (h2 : b ≤ 4) : b + a ≤ 900 := Nat.le_trans (Nat.add_le_add h2 h1) (by decide)
theorem ar91 {a : Nat} {b : Nat} (h1 : a ≤ b) : min a b = a := Nat.min_eq_left h1
theorem ar92 {a : Nat} {b : Nat} (h1 : a ≤ b) (h2 : a ≥ b) : a = b := Nat.le_antisymm h1 h2
theorem ar93 {a : Nat} {b : Nat} {c : Nat}  : a + b + c = a + (b + c) := Nat.add_assoc _ _ _
theorem ar94 {a : Nat} {b : Nat} {c : Nat}  : a + b - (a + c) ≤ a + b := Nat.sub_le _ _
theorem ar95 {a : Nat} {b : Nat} {c : Nat} (h1 : a + (b + 1) + 1 < c) : a + 1 + b < c := Nat.lt_of_le_of_lt (Nat.le_of_eq (Nat.add_right_comm a 1 b)) (Nat.lt_of_succ_lt h1)
theorem ar96 {a : Nat} {b : Nat} {c : Nat} (h1 : a + (b + 1) + 1 < c) : a < c := Nat.lt_of_le_of_lt (Nat.le_add_right a (b + 1 + 1)) h1
theorem ar97 {a : Nat} {b : Nat} {c : Nat} (h1 : a + (b + 1) - (0 + 1) ≤ c) (h2 : c < a + (b + 1)) : c = a + (b + 1) - 1 := Nat.eq_of_le_of_lt_succ h1 h2
theorem ar98 {a : Nat} {b : Nat} {c : Nat} (h1 : a + (b + 1) = c) : a + 1 + b = c := (Nat.add_right_comm a 1 b).trans h1
theorem ar99 {a : Nat} {b : Nat} {c : Nat} (h1 : a + 1 ≤ b) : c ≤ c + b - (a + 1) := Nat.le_sub_of_add_le (Nat.add_le_add_left h1 c)
theorem ar100 {a : Nat} {b : Nat} {c : Nat} (h1 : a + b + 4 < c) : a + 1 + 1 + b + 1 < c := by rw [Nat.add_right_comm (a + 1) 1 b, Nat.add_right_comm a 1 b]; exact Nat.lt_of_succ_lt h1
theorem ar101 {a : Nat} {b : Nat} {c : Nat} (h1 : a + b ≤ 1000) (h2 : c = a) : (↑c : Int) < 9223372036854775808 := Int.ofNat_lt.mpr (Nat.lt_of_le_of_lt (Nat.le_trans (Nat.le_trans (Nat.le_of_eq h2) (Nat.le_add_right a b)) h1) (by decide : 1000 < 9223372036854775808))
theorem ar102 {a : Nat} {b : Nat} {c : Nat} (h1 : a + b ≤ c) : min b (c - a) = b := Nat.min_eq_left (Nat.le_sub_of_add_le' h1)
theorem ar103 {a : Nat} {b : Nat} {c : Nat} (h1 : a < b) : c + a ≤ c + b := Nat.add_le_add_left (Nat.le_of_lt h1) c
theorem ar104 {a : Nat} {b : Nat} {c : Nat} (h1 : a < b) (h2 : c = b) : a < c := Nat.lt_of_lt_of_le h1 (Nat.le_of_eq (h2).symm)
theorem ar105 {a : Nat} {b : Nat} {c : Nat} (h1 : a < min b c) : a < b := Nat.lt_of_lt_of_le h1 (Nat.min_le_left b c)
theorem ar106 {a : Nat} {b : Nat} {c : Nat} (h1 : a = b) (h2 : c < a) : c < b := Nat.le_trans h2 (Nat.le_of_eq h1)
theorem ar107 {a : Nat} {b : Nat} {c : Nat} (h1 : a ≤ b ∧ b < c) : a ≤ b := h1.1
theorem ar108 {a : Nat} {b : Nat} {c : Nat} (h1 : a ≤ b) (h2 : b - a ≤ c - max 0 c) : a = b := Nat.le_antisymm h1 (Nat.le_of_sub_eq_zero (Nat.eq_zero_of_le_zero (Nat.le_trans h2 (Nat.le_of_eq (Nat.sub_eq_zero_of_le (Nat.le_max_right 0 c))))))
theorem ar109 {a : Nat} {b : Nat} {c : Nat} (h1 : a ≤ b) (h2 : b < c) : a < c := Nat.lt_of_le_of_lt h1 h2
theorem ar110 {a : Nat} {b : Nat} {c : Nat} (h1 : a ≤ b) (h2 : c = a) : c ≤ b := Nat.le_trans (Nat.le_of_eq h2) h1
theorem ar111 {a : Nat} {b : Nat} {c : Nat} (h1 : ¬a - b = 0) (h2 : c = a - b) : 0 < c := Nat.pos_of_ne_zero (by rw [h2]; exact h1)
theorem ar112 {a : Nat} {b : Nat} {c : Nat} (h1 : ¬a ≥ b) : a + min (b - a) c ≤ b := Nat.le_trans (Nat.add_le_add_left (Nat.min_le_left _ _) a) (Nat.le_of_eq (Nat.add_sub_cancel' (Nat.le_of_not_le h1)))
theorem ar113 {a : Nat} {b : Nat} {c : Nat} {d : Nat} (h1 : a + 2 * b ≤ 990) (h2 : c ≤ b) (h3 : d = c) : a + 2 * d ≤ 1000 := Nat.le_trans (Nat.add_le_add_left (Nat.mul_le_mul_left 2 (Nat.le_trans (Nat.le_of_eq h3) h2)) a) (Nat.le_trans h1 (by decide))
theorem ar114 {a : Nat} {b : Nat} {c : Nat} {d : Nat} (h1 : a + b ≤ c) (h2 : d = c) : min b (d - a) = b := Nat.min_eq_left (Nat.le_sub_of_add_le' (Nat.le_trans h1 (Nat.le_of_eq h2.symm)))
theorem ar115 {a : Nat} {b : Nat} {c : Nat} {d : Nat} (h1 : a < min b (c - d)) : a < b := Nat.lt_of_lt_of_le h1 (Nat.min_le_left _ _)
theorem ar116 {a : Nat} {b : Nat} {c : Nat} {d : Nat} (h1 : a ≤ b + c) (h2 : b ≤ d + 1) : a ≤ d + (c + 1) := Nat.le_trans h1 (Nat.le_trans (Nat.add_le_add_right h2 c) (Nat.le_of_eq (Nat.add_right_comm d 1 c)))
theorem ar117 {a : Nat} {b : Nat} {c : Nat} {d : Nat} (h1 : a ≤ b) (h2 : b < c) (h3 : d = c) : a < d := Nat.lt_of_le_of_lt h1 (Nat.lt_of_lt_of_le h2 (Nat.le_of_eq h3.symm))
theorem ar118 {a : Nat} {b : Nat} {c : Nat} {d : Nat} (h1 : a ≤ b) (h2 : c = a) : d + 2 * c + 1 ≤ d + 2 * b + 1 := Nat.succ_le_succ (Nat.add_le_add_left (Nat.mul_le_mul_left 2 (Nat.le_trans (Nat.le_of_eq h2) h1)) d)
theorem ar119 {a : Nat} {b : Nat} {c : Nat} {d : Nat} {e : Nat} (h1 : a + b < min c (d - e)) : a + b < c := Nat.lt_of_lt_of_le h1 (Nat.min_le_left _ _)
theorem ar120 {a : Nat} {b : Nat} {c : Nat} {d : Nat} {e : Nat} (h1 : a + b ≤ c) (h2 : d ≤ e) (h3 : e < b) : a + d < c := Nat.lt_of_lt_of_le (Nat.add_lt_add_left (Nat.lt_of_le_of_lt h2 h3) a) h1
theorem ar121 {a : Nat} {b : Nat} {c : Nat} {d : Nat} {e : Nat} (h1 : a - b ≤ c - d) (h2 : b ≤ e ∧ e < a) : a - (e + 1) ≤ c - (d + 1) := Nat.le_trans (Nat.sub_le_sub_left (Nat.succ_le_succ h2.1) a) (Nat.sub_le_sub_right h1 1)
theorem ar122 {a : Nat} {b : Nat} {c : Nat} {d : Nat} {e : Nat} (h1 : a - b ≤ c - d) (h2 : b ≤ e ∧ e < a) : e - b ≤ c - (d + 1) := Nat.le_sub_one_of_lt (Nat.lt_of_lt_of_le (Nat.sub_lt_sub_right h2.1 h2.2) h1)
theorem ar123 {a : Nat} {b : Nat} {c : Nat} {d : Nat} {e : Nat} {f : Nat} (h1 : 0 < a) (h2 : b = c + (a + (d + e))) (h3 : f ≤ a) : c + f + (a - f) - 1 < b := by rw [Nat.add_assoc, Nat.add_sub_cancel' h3]; exact Nat.lt_of_lt_of_le (Nat.sub_lt (Nat.lt_of_lt_of_le h1 (Nat.le_add_left a c)) Nat.one_pos) (h2 ▸ Nat.add_le_add_left (Nat.le_add_right a _) c)
theorem ar124 : 0 + 3 ≤ 1000 := by decide
theorem ar125 : 0 < 13 := by decide
theorem ar126 : 0 < 2 := by decide
theorem ar127 : 0 < 3 := by decide
theorem ar128 : 0 < 4 := by decide
theorem ar129 : 0 < 7 := by decide
theorem ar130 : 0 ≤ 1 ∧ 1 < 4 := by decide
theorem ar131 : 0 ≤ 1000 := by decide
theorem ar132 : 0 ≤ 20 := by decide
theorem ar133 : 1 > 0 := by decide
theorem ar134 : 1 ≤ 20 := by decide
theorem ar135 : 13 ≤ 100000 := by decide
theorem ar136 : 2 ≤ 100000 := by decide
theorem ar137 : 2 ≤ 20 := by decide
theorem ar138 : 3 ≤ 100000 := by decide
theorem ar139 : 4 + 2 * 0 ≤ 990 := by decide
theorem ar140 : 5 + 2 * 1 + 1 + 1 ≤ 1000 := by decide
theorem ar141 : 5 + 2 * 1 + 1 + 2 + 1 ≤ 1000 := by decide
theorem ar142 : 5 + 2 * 1 + 1 + 2 + 2 + 2 * 2 ≤ 990 := by decide
theorem ar143 : 5 + 2 * 1 ≤ 990 := by decide
theorem ar144 : 7 ≤ 100000 := by decide
theorem ar145 : ¬1 < 0 := by decide
theorem ar146 : ¬2 ≤ 1 := by decide
theorem ar147 {a : Int}  : max a (a + 1) = a + 1 := Int.max_eq_right (Int.le_of_lt (Int.lt_succ a))
theorem ar148 {a : Int} (h1 : 0 < a) : a ≠ 0 := Ne.symm (Int.ne_of_lt h1)
theorem ar149 {a : Int} (h1 : 0 > a) (h2 : 0 ≤ a) : False := absurd h2 (Int.not_le.mpr h1)
theorem ar150 {a : Int} (h1 : 0 ≤ a ∧ a < 4) : 0 ≤ a ∧ a < (↑4 : Int) := h1
theorem ar151 {a : Int} (h1 : 0 ≤ a) : 0 ≤ 6 + a := Int.add_nonneg (by decide) h1
theorem ar152 {a : Int} (h1 : 0 ≤ a) : 1 ≤ 2 + a := Int.le_trans (by decide : (1 : Int) ≤ 2 + 0) (Int.add_le_add_left h1 2)
theorem ar153 {a : Int} (h1 : 0 ≤ a) : 1 ≤ a + 1 := Int.le_add_of_nonneg_left h1
theorem ar154 {a : Int} (h1 : 0 ≤ a) : a = max a 0 := Eq.symm (Int.max_eq_left h1)
theorem ar155 {a : Int} (h1 : 0 ≤ a) : max a 0 = a := Int.max_eq_left h1
theorem ar156 {a : Int} (h1 : 1 ≤ a + 1 ∧ a + 1 ≤ a) : False := absurd h1.2 (Int.not_le.mpr (Int.lt_succ a))
theorem ar157 {a : Int} (h1 : a < 0 ∨ (↑1 : Int) ≤ a) : ¬a = 0 := Int.ne_iff_lt_or_gt.mpr h1
theorem ar161 {a : Int} {b : Int}  : a ≤ max (a + 1) b := Int.le_trans (Int.le_of_lt (Int.lt_succ a)) (Int.le_max_left _ _)
theorem ar162 {a : Int} {b : Int}  : a ≤ max a b := Int.le_max_left a b
theorem ar163 {a : Int} {b : Int} (h1 : 1 ≤ a ∧ a ≤ b + 1) (h2 : ¬a ≤ b) : a = b + 1 := Int.le_antisymm h1.2 (Int.add_one_le_of_lt (Int.not_le.mp h2))
theorem ar164 {a : Int} {b : Int} (h1 : 1 ≤ a ∧ a ≤ b) (h2 : b ≤ 0) : False := absurd (Int.le_trans h1.1 (Int.le_trans h1.2 h2)) (by decide)
theorem ar165 {a : Int} {b : Int} (h1 : 1 ≤ a) (h2 : a ≤ b) : 0 ≤ b := Int.le_trans (by decide) (Int.le_trans h1 h2)
theorem ar166 {a : Int} {b : Int} (h1 : a = b) : ¬a ≠ b := not_not_intro h1
theorem ar167 {a : Int} {b : Int} (h1 : a ≠ b) : a ≠ b := h1
theorem ar168 {a : Int} {b : Int} (h1 : a ≤ b) : a + 1 ≤ b + 1 := (Int.add_le_add_iff_right 1).mpr h1
theorem ar169 {a : Int} {b : Int} (h1 : a ≤ b) : max b a = b := Int.max_eq_left h1
theorem ar170 {a : Int} {b : Int} (h1 : ¬(1 ≤ a ∧ a ≤ b)) (h2 : 1 ≤ a) : a > b := Int.not_le.mp fun q => h1 ⟨h2, q⟩
theorem ar171 {a : Int} {b : Int} (h1 : ¬a ≤ b) : ¬(1 ≤ a ∧ a ≤ b) := not_and.mpr fun a => h1
theorem ar174 {a : Int} {b : Int} {c : Int} (h1 : 1 ≤ a ∧ a ≤ b) (h2 : b ≤ c) : a ≤ c := Int.le_trans h1.2 h2
theorem ar176 {a : Int} {b : Int} {c : Int} (h1 : a < b) (h2 : b < c) : a < c := Int.lt_trans h1 h2
theorem ar177 {a : Int} {b : Int} {c : Int} (h1 : a < b) (h2 : b = c) : a < c := lt_of_lt_of_eq h1 h2
theorem ar178 {a : Int} {b : Int} {c : Int} (h1 : a = b) (h2 : b < c) : a < c := lt_of_eq_of_lt h1 h2
theorem ar179 {a : Int} {b : Int} {c : Int} (h1 : a = b) (h2 : b = c) : a = c := h1.trans h2
theorem ar180 {a : Int} {b : Int} {c : Int} (h1 : a > b) (h2 : a ≤ c) : c > b := Int.lt_of_lt_of_le h1 h2
theorem ar181 {a : Int} {b : Int} {c : Nat} (h1 : a ≤ b) (h2 : b ≤ 4 + 2 * (↑c : Int)) : a ≤ (↑(4 + 2 * c) : Int) := Int.le_trans h1 h2
theorem ar183 {a : Int} {b : Nat} (h1 : 0 ≤ a ∧ a < (↑0 : Int)) : b ≤ 0 := absurd h1.1 (Int.not_le.mpr h1.2)
theorem ar185 {a : Int} {b : Nat} (h1 : a ≤ 4 + 2 * (↑b : Int)) : a ≤ (↑(4 + 2 * b) : Int) := h1
theorem ar186 {a : Nat}  : (↑a : Int) + 1 < (↑(a + 1) : Int) + 1 := Int.le_refl _
theorem ar187 {a : Nat}  : (↑a : Int) + 1 ≤ (↑a : Int) + 1 := Int.le_refl _
theorem ar188 {a : Nat}  : 0 + a = a := Nat.zero_add a
theorem ar189 {a : Nat}  : 0 ≤ (↑(4 + 2 * a) : Int) := Int.natCast_nonneg _
theorem ar190 {a : Nat}  : 0 ≤ (↑a : Int) := Int.natCast_nonneg _
theorem ar191 {a : Nat}  : 0 ≤ (↑a : Int) + 1 := Int.natCast_nonneg _
theorem ar192 {a : Nat}  : 1 + (↑a : Int) = (↑a : Int) + 1 := Int.add_comm 1 ↑a
theorem ar193 {a : Nat}  : 20 + 40 * a + 8 ≤ 20 + 40 * (a + 1) := show 20 + 40 * a + 8 ≤ 20 + 40 * a + 40 from Nat.add_le_add_left (by decide) _
theorem ar194 {a : Nat}  : 4 + 2 * (↑a : Int) + 1 + 1 ≤ 4 + 2 * ((↑a : Int) + 1) := Int.le_refl _
theorem ar196 {a : Nat}  : a + 2 + 2 + 2 + 2 ≤ a + 8 := Nat.le_refl _
theorem ar197 {a : Nat}  : a - 0 ≤ a - 0 := Nat.le_refl _
theorem ar198 {a : Nat}  : a - 1 ≤ a := Nat.sub_le _ _
theorem ar199 {a : Nat}  : a ≠ a + 1 := Nat.ne_add_one a
theorem ar200 {a : Nat}  : a ≤ a + 0 := Nat.le_add_right _ _
theorem ar201 {a : Nat}  : a ≤ a + 1 := Nat.le_add_right _ _
theorem ar202 {a : Nat}  : a ≤ a - 1 + 1 := Nat.le_succ_of_pred_le (Nat.le_refl _)
theorem ar203 {a : Nat}  : a.succ ≤ a + 1 := Nat.le_refl _
theorem ar204 {a : Nat}  : ¬(↑(a + 1) : Int) = 0 := fun q => absurd (Int.ofNat_inj.mp q) (Nat.succ_ne_zero a)
theorem ar205 {a : Nat}  : ¬(↑a : Int) < 0 := Int.not_ofNat_neg a
theorem ar206 {a : Nat} (h1 : 0 < a) : 0 < a := h1
theorem ar207 {a : Nat} (h1 : 0 < a) (h2 : ¬a = 1) : 1 < a := Nat.lt_of_le_of_ne h1 fun a_1 => h2 (id (Eq.symm a_1))
theorem ar208 {a : Nat} (h1 : 1 ≤ a) : (↑a : Int) ≠ 0 := Int.natCast_ne_zero_iff_pos.mpr h1
theorem ar209 {a : Nat} (h1 : 1 ≤ a) : 0 + 1 ≤ a := h1
theorem ar210 {a : Nat} (h1 : 1 ≤ a) : 0 ≠ (↑a : Int) := fun q => Nat.ne_of_gt h1 (Int.ofNat_inj.mp q.symm)
theorem ar211 {a : Nat} (h1 : 1 ≤ a) : 0 ≠ a := Nat.ne_of_lt h1
theorem ar212 {a : Nat} (h1 : 1 ≤ a) : 1 ≤ (↑a : Int) := Int.ofNat_le.mpr h1
theorem ar213 {a : Nat} (h1 : 1 ≤ a) : ¬(↑0 : Int) = (↑a : Int) := fun q => Nat.ne_of_gt h1 (Int.ofNat_inj.mp q.symm)
theorem ar214 {a : Nat} (h1 : 1 ≤ a) (h2 : ¬1 = a) : 1 + 1 ≤ a := Nat.lt_of_le_of_ne h1 h2
theorem ar215 {a : Nat} (h1 : 1 ≤ a) (h2 : ¬a > 1) : a = 1 := Nat.le_antisymm (Nat.le_of_not_lt h2) h1
theorem ar216 {a : Nat} (h1 : 2 ≤ a) : 0 < (↑a : Int) := Int.ofNat_lt.mpr (Nat.lt_of_lt_of_le (by decide : 0 < 2) h1)
theorem ar217 {a : Nat} (h1 : 2 ≤ a) : 0 < a := Nat.le_of_lt h1
theorem ar218 {a : Nat} (h1 : a + 3 ≤ 1000) : a + 1 ≤ 1000 := Nat.le_trans (Nat.add_le_add_left (by decide) _) h1
theorem ar219 {a : Nat} (h1 : a + 3 ≤ 1000) : a + 2 + 1 ≤ 1000 := h1
theorem ar220 {a : Nat} (h1 : a + 7 ≤ 1000) : a + 1 ≤ 1000 := Nat.le_trans (Nat.add_le_add_left (by decide) _) h1
theorem ar221 {a : Nat} (h1 : a + 7 ≤ 1000) : a + 2 + 1 ≤ 1000 := Nat.lt_of_le_of_lt (Nat.add_le_add_left (by decide : _ ≤ _) _) h1
theorem ar222 {a : Nat} (h1 : a + 7 ≤ 1000) : a + 2 + 2 + 1 ≤ 1000 := Nat.lt_of_le_of_lt (Nat.add_le_add_left (by decide : _ ≤ _) _) h1
theorem ar223 {a : Nat} (h1 : a + 7 ≤ 1000) : a + 2 + 2 + 2 + 1 ≤ 1000 := h1
theorem ar224 {a : Nat} (h1 : a < 4) : 0 ≤ (↑a : Int) ∧ (↑a : Int) < 4 := ⟨Int.natCast_nonneg a, Int.ofNat_lt.mpr h1⟩
theorem ar226 {a : Nat} (h1 : a ≤ 100) : a ≤ 900 := Nat.le_trans h1 (by decide)
theorem ar227 {a : Nat} (h1 : a ≤ 1000) : (↑a : Int) ≤ 100000 := Int.ofNat_le.mpr (Nat.le_trans h1 (by decide : 1000 ≤ 100000))
theorem ar228 {a : Nat} (h1 : a ≤ 1000) : a ≤ 1000 := h1
theorem ar229 {a : Nat} (h1 : a ≤ 1000) : a ≤ 100000 := Nat.le_trans h1 (by decide)
theorem ar230 {a : Nat} (h1 : a ≤ 17) : 20 + 40 * a + 2 * a + 1 ≤ 20 + 40 * (a + 1) := Nat.succ_le_of_lt (Nat.lt_of_le_of_lt (Nat.add_le_add_left (Nat.mul_le_mul_left 2 h1) _) (show 20 + 40 * a + 34 < 20 + 40 * a + 40 from Nat.add_lt_add_left (by decide) _))
theorem ar231 {a : Nat} (h1 : a ≤ 17) : 20 + 40 * a + 2 * a ≤ 990 := Nat.le_trans (Nat.add_le_add (Nat.add_le_add_left (Nat.mul_le_mul_left 40 h1) 20) (Nat.mul_le_mul_left 2 h1)) (by decide)
theorem ar232 {a : Nat} (h1 : a ≤ 17) : 20 + 40 * a + 7 ≤ 1000 := Nat.le_trans (Nat.add_le_add_right (Nat.add_le_add_left (Nat.mul_le_mul_left 40 h1) 20) 7) (by decide)
theorem ar233 {a : Nat} (h1 : a ≤ 17) : a ≤ 20 := Nat.le_trans h1 (by decide)
theorem ar234 {a : Nat} (h1 : a ≤ 4) : (↑a : Int) ≤ 100000 := Int.ofNat_le.mpr (Nat.le_trans h1 (by decide : 4 ≤ 100000))
theorem ar235 {a : Nat} (h1 : a ≤ 4) : (↑a : Int) ≤ 4 := Int.ofNat_le.mpr h1
theorem ar236 {a : Nat} (h1 : a ≤ 63) : a ≤ 1000 := Nat.le_trans h1 (by decide)
theorem ar237 {a : Nat} (h1 : a ≤ 900) : a ≤ 999 := Nat.le_trans h1 (by decide)
theorem ar238 {a : Nat} (h1 : ¬a - 1 = 0) : 0 < a - 1 := Nat.pos_of_ne_zero h1
theorem ar239 {a : Nat} (h1 : ¬a = 0) : (↑a : Int) ≠ 0 := Int.ofNat_ne_zero.mpr h1
theorem ar240 {a : Nat} (h1 : ¬a = 1) (h2 : ¬a = 0) : 1 < a := Nat.lt_of_le_of_ne (Nat.pos_of_ne_zero h2) (Ne.symm h1)
theorem ar241 {a : Nat} {b : Int} (h1 : (↑(a + 1) : Int) ≤ b) : (↑a : Int) ≤ b := Int.le_of_lt h1
theorem ar242 {a : Nat} {b : Int} (h1 : (↑(a + 1) : Int) ≤ b) : b ≠ (↑a : Int) := Ne.symm (Int.ne_of_lt h1)
theorem ar244 {a : Nat} {b : Nat}  : a + (b + 1) + 1 = a + (b + 1 + 1) := rfl
theorem ar245 {a : Nat} {b : Nat}  : a + (b + 1) - 1 = a + b := rfl
theorem ar246 {a : Nat} {b : Nat}  : a + (b + 1) = a + b + 1 := rfl
theorem ar247 {a : Nat} {b : Nat}  : a + 2 * b + 1 + 1 ≤ a + 2 * (b + 1) := Nat.le_refl _
theorem ar248 {a : Nat} {b : Nat}  : a + 2 * b + 1 ≤ a + 2 * (b + 1) := Nat.le_succ _
theorem ar249 {a : Nat} {b : Nat}  : a + 2 * b ≤ a + 2 * (b + 1) := Nat.add_le_add_left (Nat.mul_le_mul_left 2 (Nat.le_succ b)) a
theorem ar250 {a : Nat} {b : Nat}  : a + b - a = b := Nat.add_sub_self_left a b
theorem ar251 {a : Nat} {b : Nat}  : a ≤ a + 2 * b * 0 := Nat.le_add_right _ _
theorem ar252 {a : Nat} {b : Nat}  : min (max (max a 1) b) b = b := Nat.min_eq_right (Nat.le_max_right _ _)
theorem ar254 {a : Nat} {b : Nat} (h1 : (↑a : Int) + 1 < (↑b : Int)) : (↑a : Int) + 1 < (↑b : Int) := h1
theorem ar255 {a : Nat} {b : Nat} (h1 : (↑a : Int) + 1 < (↑b : Int)) : a + 1 < b := Int.ofNat_lt.mp h1
theorem ar256 {a : Nat} {b : Nat} (h1 : (↑a : Int) < (↑b : Int)) : a < b := Int.ofNat_lt.mp h1
theorem ar259 {a : Nat} {b : Nat} (h1 : 0 < a) (h2 : a ≤ b) : a - 1 < b := Nat.sub_one_lt_of_le h1 h2
theorem ar260 {a : Nat} {b : Nat} (h1 : 0 < a) (h2 : b = a) : a - 1 < b := h2.symm ▸ Nat.sub_lt h1 Nat.one_pos
theorem ar261 {a : Nat} {b : Nat} (h1 : 1 ≤ a) : b + a - 1 < b + a := Nat.sub_lt (Nat.lt_of_lt_of_le h1 (Nat.le_add_left a b)) Nat.one_pos
theorem ar262 {a : Nat} {b : Nat} (h1 : 1 ≤ a) (h2 : a ≤ b) : 1 ≤ b := Nat.le_trans h1 h2
theorem ar263 {a : Nat} {b : Nat} (h1 : 2 ≤ a) (h2 : ¬(↑b : Int) + 1 < (↑a : Int)) : b ≠ 0 := fun q => h2 (Int.lt_of_lt_of_le (q ▸ by decide : (↑b : Int) + 1 < 2) (Int.ofNat_le.mpr h1))
theorem ar264 {a : Nat} {b : Nat} (h1 : a + 0 = b) : b ≤ a := Nat.le_of_eq (h1).symm
theorem ar265 {a : Nat} {b : Nat} (h1 : a + 1 < b) : 0 < b - a := Nat.sub_pos_of_lt (Nat.lt_of_succ_lt h1)
theorem ar266 {a : Nat} {b : Nat} (h1 : a + 1 < b) : a < b := Nat.le_of_lt h1
theorem ar267 {a : Nat} {b : Nat} (h1 : a + 1 < b) : a ≤ b := Nat.le_of_lt (Nat.lt_of_succ_lt h1)
theorem ar268 {a : Nat} {b : Nat} (h1 : a + 1 ≤ b) : a + 1 + 1 ≤ b + 1 := Nat.add_lt_add_right h1 _
theorem ar269 {a : Nat} {b : Nat} (h1 : a + 1 ≤ b) : a ≤ b := Nat.le_of_lt h1
theorem ar270 {a : Nat} {b : Nat} (h1 : a + 10 < b) : a + (1 + 1) + 1 < b := Nat.lt_of_le_of_lt (show a + (1 + 1) + 1 ≤ a + 10 from Nat.add_le_add_left (by decide : 3 ≤ 10) a) h1
theorem ar271 {a : Nat} {b : Nat} (h1 : a + 10 < b) : a + 1 < b := Nat.lt_of_le_of_lt (Nat.add_le_add_left (by decide : _ ≤ _) _) h1
theorem ar272 {a : Nat} {b : Nat} (h1 : a + 10 < b) : a < b := Nat.lt_of_le_of_lt (Nat.le_add_right _ _) h1
theorem ar273 {a : Nat} {b : Nat} (h1 : a + 20 < b) : a + 1 + 10 < b := Nat.lt_of_le_of_lt (show a + 1 + 10 ≤ a + 20 from Nat.add_le_add_left (by decide : 11 ≤ 20) a) h1
theorem ar274 {a : Nat} {b : Nat} (h1 : a + 20 < b) : a + 8 + 4 < b := Nat.lt_of_le_of_lt (show a + 8 + 4 ≤ a + 20 from Nat.add_le_add_left (by decide : 12 ≤ 20) a) h1
theorem ar275 {a : Nat} {b : Nat} (h1 : a + 30 < b) : a + 20 < b := Nat.lt_of_le_of_lt (Nat.add_le_add_left (by decide : _ ≤ _) _) h1
theorem ar276 {a : Nat} {b : Nat} (h1 : a + b ≤ 1000) : a ≤ 10000 := Nat.le_trans (Nat.le_add_right a b) (Nat.le_trans h1 (by decide))
theorem ar277 {a : Nat} {b : Nat} (h1 : a + b ≤ 1000) : a ≤ 16777216 := Nat.le_trans (Nat.le_add_right a b) (Nat.le_trans h1 (by decide))
theorem ar278 {a : Nat} {b : Nat} (h1 : a + b ≤ 1000) : b + a ≤ 1000 := Nat.le_trans (Nat.le_of_eq (Nat.add_comm b a)) h1
theorem ar279 {a : Nat} {b : Nat} (h1 : a + b ≤ 100000) : a + b ≤ 16777216 := Nat.le_trans h1 (by decide)
theorem ar280 {a : Nat} {b : Nat} (h1 : a + b ≤ 50000) : b ≤ 16777216 := Nat.le_trans (Nat.le_add_left b a) (Nat.le_trans h1 (by decide))
theorem ar281 {a : Nat} {b : Nat} (h1 : a + b ≤ 900) : a + b ≤ 1000 := Nat.le_trans h1 (by decide)
theorem ar282 {a : Nat} {b : Nat} (h1 : a + b ≤ 900) : a ≤ 900 := Nat.le_trans (Nat.le_add_right _ _) h1
theorem ar283 {a : Nat} {b : Nat} (h1 : a + b ≤ 900) : b + a ≤ 1000 := Nat.le_trans (Nat.le_of_eq (Nat.add_comm b a)) (Nat.le_trans h1 (by decide))
theorem ar285 {a : Nat} {b : Nat} (h1 : a - (b + 1) = 0) (h2 : b + 1 ≤ a) : b + 1 = a := Nat.le_antisymm h2 (Nat.le_of_sub_eq_zero h1)
theorem ar286 {a : Nat} {b : Nat} (h1 : a - b = 0) (h2 : b ≤ a) : b = a := Nat.le_antisymm h2 (Nat.le_of_sub_eq_zero h1)
theorem ar287 {a : Nat} {b : Nat} (h1 : a - b > 0) : 1 ≤ a - b := h1
theorem ar288 {a : Nat} {b : Nat} (h1 : a < b + 1) (h2 : ¬a = b) : a < b := Nat.lt_of_le_of_ne (Nat.le_of_lt_succ h1) h2
theorem ar289 {a : Nat} {b : Nat} (h1 : a < b + 1) (h2 : ¬a = b) (h3 : ¬a = 0) : 2 ≤ b := Nat.lt_of_le_of_lt (Nat.pos_of_ne_zero h3) (Nat.lt_of_le_of_ne (Nat.le_of_lt_succ h1) h2)
theorem ar291 {a : Nat} {b : Nat} (h1 : a < b) : 0 < b - a := Nat.sub_pos_of_lt h1
theorem ar293 {a : Nat} {b : Nat} (h1 : a < b) : a < b + 1 := Nat.le_succ_of_le h1
theorem ar295 {a : Nat} {b : Nat} (h1 : a < b) : a ≤ b - 1 := Nat.le_sub_one_of_lt h1
theorem ar296 {a : Nat} {b : Nat} (h1 : a < b) : min (a + 1) b = a + 1 := Nat.min_eq_left h1
theorem ar297 {a : Nat} {b : Nat} (h1 : a < b) : min a b = a := Nat.min_eq_left (Nat.le_of_lt h1)
theorem ar298 {a : Nat} {b : Nat} (h1 : a < b) : ¬(↑a : Int) = (↑b : Int) := fun q => Nat.ne_of_lt h1 (Int.ofNat_inj.mp q)
theorem ar299 {a : Nat} {b : Nat} (h1 : a = b + 1) : a = b + 1 := h1
theorem ar300 {a : Nat} {b : Nat} (h1 : a = b) : a ≤ b := Nat.le_of_eq h1
theorem ar301 {a : Nat} {b : Nat} (h1 : a = b) : a ≤ b - 1 + 1 := Nat.le_trans (Nat.le_of_eq h1) (Nat.le_succ_of_pred_le (Nat.le_refl _))
theorem ar302 {a : Nat} {b : Nat} (h1 : a = b) (h2 : ¬a < 2) : 2 ≤ b := h1 ▸ Nat.le_of_not_lt h2
theorem ar303 {a : Nat} {b : Nat} (h1 : a ≤ 100) (h2 : b = a) : b ≤ 100000 := Nat.le_trans (Nat.le_of_eq h2) (Nat.le_trans h1 (by decide))
theorem ar304 {a : Nat} {b : Nat} (h1 : a ≤ 100) (h2 : b ≤ 100) : b + a ≤ 900 := Nat.le_trans (Nat.add_le_add h2 h1) (by decide)
theorem ar305 {a : Nat} {b : Nat} (h1 : a ≤ 1000) (h2 : b = a) : b ≤ 16777215 := Nat.le_trans (Nat.le_of_eq h2) (Nat.le_trans h1 (by decide))
theorem ar306 {a : Nat} {b : Nat} (h1 : a ≤ 1000) (h2 : b = a) : b ≤ 16777216 := Nat.le_trans (Nat.le_of_eq h2) (Nat.le_trans h1 (by decide))
theorem ar307 {a : Nat} {b : Nat} (h1 : a ≤ 1000) (h2 : b ≤ a) : b ≤ 16777216 := Nat.le_trans (Nat.le_trans h2 h1) (by decide)
theorem ar308 {a : Nat} {b : Nat} (h1 : a ≤ 10000) (h2 : b = a) : b ≤ 16777216 := Nat.le_trans (Nat.le_of_eq h2) (Nat.le_trans h1 (by decide))
theorem ar309 {a : Nat} {b : Nat} (h1 : a ≤ 100000) (h2 : b = a) : b ≤ 16777216 := Nat.le_trans (Nat.le_of_eq h2) (Nat.le_trans h1 (by decide))
theorem ar310 {a : Nat} {b : Nat} (h1 : a ≤ 160) (h2 : b = a) : b ≤ 100000 := Nat.le_trans (Nat.le_of_eq h2) (Nat.le_trans h1 (by decide))
theorem ar311 {a : Nat} {b : Nat} (h1 : a ≤ 17) (h2 : b ≤ a) : b ≤ 100 := Nat.le_trans (Nat.le_trans h2 h1) (by decide)
theorem ar312 {a : Nat} {b : Nat} (h1 : a ≤ 20) (h2 : b ≤ a) : b ≤ 16777216 := Nat.le_trans (Nat.le_trans h2 h1) (by decide)
theorem ar314 {a : Nat} {b : Nat} (h1 : a ≤ b - 1) (h2 : 0 < b) : a + 1 ≤ b := Nat.add_le_of_le_sub h2 h1
theorem ar315 {a : Nat} {b : Nat} (h1 : a ≤ b - 1) (h2 : ¬b - 1 - a > 0) : a = b - 1 := Nat.le_antisymm h1 (Nat.le_of_sub_eq_zero (Nat.eq_zero_of_not_pos h2))
theorem ar316 {a : Nat} {b : Nat} (h1 : a ≤ b) : a + (b - a) = b := Nat.add_sub_cancel' h1
theorem ar317 {a : Nat} {b : Nat} (h1 : a ≤ b) : a + 0 ≤ b := h1
theorem ar318 {a : Nat} {b : Nat} (h1 : a ≤ b) : a + 1 ≤ b + 1 := Nat.add_le_add_right h1 _
theorem ar319 {a : Nat} {b : Nat} (h1 : a ≤ b) : b + 1 - (a + 1) < b + 1 - a := Nat.sub_lt_sub_left (Nat.lt_succ_of_le h1) (Nat.lt_succ_self a)
theorem ar320 {a : Nat} {b : Nat} (h1 : a ≤ b) : min b a = a := Nat.min_eq_right h1
theorem ar321 {a : Nat} {b : Nat} (h1 : a ≤ b) (h2 : b - a = 0) : a = b := Nat.le_antisymm h1 (Nat.le_of_sub_eq_zero h2)
theorem ar322 {a : Nat} {b : Nat} (h1 : a ≤ b) (h2 : ¬a < b) : a = b := Nat.le_antisymm h1 (Nat.le_of_not_lt h2)
theorem ar323 {a : Nat} {b : Nat} (h1 : a ≤ b) (h2 : ¬a = b) : a + 1 ≤ b := Nat.lt_of_le_of_ne h1 h2
theorem ar324 {a : Nat} {b : Nat} (h1 : a ≤ b) (h2 : ¬b - a > 0) : a = b := Nat.le_antisymm h1 (Nat.le_of_sub_eq_zero (Nat.eq_zero_of_not_pos h2))
theorem ar325 {a : Nat} {b : Nat} (h1 : max 0 a ≤ b ∨ a ≤ b) : a ≤ b := h1.elim (fun q => Nat.le_trans (Nat.le_max_right 0 a) q) id
theorem ar326 {a : Nat} {b : Nat} (h1 : ¬(↑63 : Int) < (↑a : Int)) (h2 : b = a) : b ≤ 63 := Nat.le_trans (Nat.le_of_eq h2) (Int.ofNat_le.mp (Int.not_lt.mp h1))
theorem ar327 {a : Nat} {b : Nat} (h1 : ¬a < b) : (↑a : Int) < 0 ∨ (↑b : Int) ≤ (↑a : Int) := .inr (Int.ofNat_le.mpr (Nat.le_of_not_lt h1))
theorem ar328 {a : Nat} {b : Nat} (h1 : ¬a < b) (h2 : a - b = 0) : a = b := Nat.le_antisymm (Nat.le_of_sub_eq_zero h2) (Nat.le_of_not_lt h1)
theorem ar329 {a : Nat} {b : Nat} (h1 : ¬a = b) : (↑a : Int) ≠ (↑b : Int) := Nat.ToInt.of_diseq rfl rfl h1
theorem ar330 {a : Nat} {b : Nat} (h1 : ¬a ≤ b) : b < a := Nat.lt_of_not_le h1
theorem ar331 {a : Nat} {b : Nat} (h1 : ¬a ≤ b) : b ≤ a := Nat.le_of_not_ge h1
theorem ar332 {a : Nat} {b : Nat} (h1 : ¬a ≤ b) : ¬min b a = a := fun q => absurd (q ▸ Nat.min_le_left b a) h1
theorem ar333 {a : Nat} {b : Nat} (h1 : ¬a ≥ b + 1) : a ≤ b := Nat.le_of_not_lt h1
theorem ar334 {a : Nat} {b : Nat} (h1 : ¬a ≥ b) : 1 ≤ b - a := Nat.sub_pos_of_lt (Nat.lt_of_not_le h1)
theorem ar335 {a : Nat} {b : Nat} (h1 : ¬a ≥ b) : a + (b - a) = b := Nat.add_sub_cancel' (Nat.le_of_not_le h1)
theorem ar336 {a : Nat} {b : Nat} {c : Int} (h1 : a < b) (h2 : c < 0 ∨ (↑b : Int) ≤ c) : c ≠ (↑a : Int) := fun q => h2.elim (fun r => absurd (q ▸ r) (Int.not_lt.mpr (Int.natCast_nonneg a))) fun r => absurd (Int.ofNat_le.mp (q ▸ r)) (Nat.not_le.mpr h1)
theorem ar338 {a : Nat} {b : Nat} {c : Nat}  : a + b + 1 + c = a + b + (c + 1) := Nat.add_right_comm (a + b) 1 c
theorem ar339 {a : Nat} {b : Nat} {c : Nat}  : a + b + c - (a + b) = c := Nat.add_sub_self_left (a + b) c
theorem ar340 {a : Nat} {b : Nat} {c : Nat}  : a + b - (a + c) = b - c := Nat.add_sub_add_left a b c
theorem ar341 {a : Nat} {b : Nat} {c : Nat}  : a + b < a + (b + 1) + c := Nat.le_add_right _ _
theorem ar342 {a : Nat} {b : Nat} {c : Nat}  : min (a + b) c ≤ a + b := Nat.min_le_left _ _
theorem ar343 {a : Nat} {b : Nat} {c : Nat} (h1 : 0 < a) (h2 : b = a + c) : 0 < b := h2 ▸ Nat.add_pos_left h1 c
theorem ar346 {a : Nat} {b : Nat} {c : Nat} (h1 : a + (b + 1) + 1 < c) : a + 1 + b + 1 < c := Nat.lt_of_le_of_lt (Nat.le_of_eq (congrArg Nat.succ (Nat.add_right_comm a 1 b))) h1
theorem ar347 {a : Nat} {b : Nat} {c : Nat} (h1 : a + (b + 1) + 1 < c) : a + b + 1 < c := Nat.le_of_lt h1
theorem ar349 {a : Nat} {b : Nat} {c : Nat} (h1 : a + b + 1 < c) : a + b < c := Nat.le_of_lt h1
theorem ar351 {a : Nat} {b : Nat} {c : Nat} (h1 : a + b ≤ 1000) (h2 : c = b) : (↑c : Int) < 9223372036854775808 := Int.ofNat_lt.mpr (Nat.lt_of_le_of_lt (Nat.le_trans (Nat.le_trans (Nat.le_of_eq h2) (Nat.le_add_left b a)) h1) (by decide : 1000 < 9223372036854775808))
theorem ar352 {a : Nat} {b : Nat} {c : Nat} (h1 : a + b ≤ c) : a + (c - a) = c := Nat.add_sub_cancel' (Nat.le_trans (Nat.le_add_right a b) h1)
theorem ar353 {a : Nat} {b : Nat} {c : Nat} (h1 : a + b ≤ c) : b ≤ c := Nat.le_trans (Nat.le_add_left _ _) h1
theorem ar354 {a : Nat} {b : Nat} {c : Nat} (h1 : a + b ≤ c) : b ≤ c - a := Nat.le_sub_of_add_le' h1
theorem ar355 {a : Nat} {b : Nat} {c : Nat} (h1 : a + b ≤ c) (h2 : 1 ≤ b) : a < c := Nat.lt_of_lt_of_le (Nat.add_lt_add_left h2 _) h1
theorem ar356 {a : Nat} {b : Nat} {c : Nat} (h1 : a - (b + 1) = c + 1) : a - (b + 1 + 1) = c := congrArg Nat.pred h1
theorem ar357 {a : Nat} {b : Nat} {c : Nat} (h1 : a - (b + 1) = c + 1) : b + 1 < a := Nat.lt_of_sub_eq_succ h1
theorem ar358 {a : Nat} {b : Nat} {c : Nat} (h1 : a - b = c + 1) : a - (b + 1) = c := congrArg Nat.pred h1
theorem ar359 {a : Nat} {b : Nat} {c : Nat} (h1 : a - b = c + 1) : b < a := Nat.lt_of_sub_eq_succ h1
theorem ar360 {a : Nat} {b : Nat} {c : Nat} (h1 : a < b + (c + 1)) (h2 : ¬a = b + c) : a < b + c := Nat.lt_of_le_of_ne (Nat.le_of_lt_succ h1) h2
theorem ar362 {a : Nat} {b : Nat} {c : Nat} (h1 : a < b + c) : a ≤ b + c - 1 := Nat.le_sub_one_of_lt h1
theorem ar364 {a : Nat} {b : Nat} {c : Nat} (h1 : a < b) : a - c < b := Nat.sub_lt_of_lt h1
theorem ar365 {a : Nat} {b : Nat} {c : Nat} (h1 : a < b) : c + a < c + b := Nat.add_lt_add_left h1 _
theorem ar367 {a : Nat} {b : Nat} {c : Nat} (h1 : a < b) (h2 : max 0 b + 1 ≤ c) : c ≥ a + 1 := Nat.lt_trans h1 h2
theorem ar368 {a : Nat} {b : Nat} {c : Nat} (h1 : a = b) : min c b = min c a := Nat.add_right_cancel (congrFun (congrArg HAdd.hAdd (congrArg (min c) (id (Eq.symm h1)))) a)
theorem ar369 {a : Nat} {b : Nat} {c : Nat} (h1 : a = b) (h2 : a ≤ c) : b ≤ c := Nat.le_trans (Nat.le_of_eq (h1).symm) h2
theorem ar370 {a : Nat} {b : Nat} {c : Nat} (h1 : a = b) (h2 : c + 0 = b) : a ≤ c := Nat.le_of_eq (h1.trans h2.symm)
theorem ar371 {a : Nat} {b : Nat} {c : Nat} (h1 : a ≤ 100) (h2 : b ≤ c) (h3 : c < a) : b ≤ 100000 := Nat.le_trans (Nat.le_trans h2 (Nat.le_of_lt (Nat.lt_of_lt_of_le h3 h1))) (by decide)
theorem ar372 {a : Nat} {b : Nat} {c : Nat} (h1 : a ≤ 1000) (h2 : b = a) (h3 : c ≤ b) : (↑c : Int) < 9223372036854775808 := Int.ofNat_lt.mpr (Nat.lt_of_le_of_lt (Nat.le_trans h3 (Nat.le_trans (Nat.le_of_eq h2) h1)) (by decide : 1000 < 9223372036854775808))
theorem ar373 {a : Nat} {b : Nat} {c : Nat} (h1 : a ≤ 1000) (h2 : b = c) (h3 : c = a) : b ≤ 16777216 := Nat.le_trans (Nat.le_of_eq (h2.trans h3)) (Nat.le_trans h1 (by decide))
theorem ar375 {a : Nat} {b : Nat} {c : Nat} (h1 : a ≤ 17) (h2 : b ≤ c) (h3 : c ≤ a) : b ≤ 100 := Nat.le_trans h2 (Nat.le_trans h3 (Nat.le_trans h1 (by decide)))
theorem ar376 {a : Nat} {b : Nat} {c : Nat} (h1 : a ≤ b + c) : a + 1 ≤ b + (c + 1) := Nat.add_le_add_right h1 _
theorem ar377 {a : Nat} {b : Nat} {c : Nat} (h1 : a ≤ b + c) (h2 : ¬a = b + c) : a < b + c := Nat.lt_of_le_of_ne h1 h2
theorem ar380 {a : Nat} {b : Nat} {c : Nat} (h1 : a ≤ b ∧ b < c) : b + 1 ≤ c := h1.2
theorem ar381 {a : Nat} {b : Nat} {c : Nat} (h1 : a ≤ b ∧ b < c) : b < c := h1.2
theorem ar382 {a : Nat} {b : Nat} {c : Nat} (h1 : a ≤ b) : a - c ≤ b - 0 := Nat.le_trans (Nat.sub_le _ _) h1
theorem ar384 {a : Nat} {b : Nat} {c : Nat} (h1 : a ≤ b) : min c a ≤ b := Nat.le_trans (Nat.min_le_right c a) h1
theorem ar385 {a : Nat} {b : Nat} {c : Nat} (h1 : a ≤ b) (h2 : 0 < c) : a + 1 ≤ c + b := Nat.le_trans (Nat.succ_le_succ h1) (Nat.le_trans (Nat.add_le_add_left h2 b) (Nat.le_of_eq (Nat.add_comm b c)))
theorem ar386 {a : Nat} {b : Nat} {c : Nat} (h1 : a ≤ b) (h2 : a = b + c) : b = a := Nat.le_antisymm (h2 ▸ Nat.le_add_right b c) h1
theorem ar388 {a : Nat} {b : Nat} {c : Nat} (h1 : a ≤ b) (h2 : b < a + c) : b - a < c := Nat.sub_lt_left_of_lt_add h1 h2
theorem ar389 {a : Nat} {b : Nat} {c : Nat} (h1 : a ≤ b) (h2 : b ≤ c) : a ≤ c := Nat.le_trans h1 h2
theorem ar390 {a : Nat} {b : Nat} {c : Nat} (h1 : a ≤ b) (h2 : b ≤ c) : a ≤ min b c := Nat.le_min.mpr ⟨h1, Nat.le_trans h1 h2⟩
theorem ar393 {a : Nat} {b : Nat} {c : Nat} (h1 : a ≤ b) (h2 : b ≤ c) (h3 : c < a + 1) : b = c := Nat.le_antisymm h2 (Nat.le_trans (Nat.le_of_lt_succ h3) h1)
theorem ar394 {a : Nat} {b : Nat} {c : Nat} (h1 : max 0 a + 1 ≤ b) : b ≥ a - c := Nat.le_trans (Nat.sub_le a c) (Nat.le_trans (Nat.le_max_right 0 a) (Nat.le_of_succ_le h1))
theorem ar396 {a : Nat} {b : Nat} {c : Nat} (h1 : ¬a < b) : min b c ≤ a := Nat.le_trans (Nat.min_le_left b c) (Nat.le_of_not_lt h1)
theorem ar397 {a : Nat} {b : Nat} {c : Nat} (h1 : ¬a ≥ b - c) : a < b - c := Nat.lt_of_not_le h1
theorem ar399 {a : Nat} {b : Nat} {c : Nat} (h1 : ¬a ≥ b) (h2 : c = b) : a + (b - a) ≤ c := Nat.le_trans (Nat.le_of_eq (Nat.add_sub_cancel' (Nat.le_of_not_le h1))) (Nat.le_of_eq h2.symm)
theorem ar400 {a : Nat} {b : Nat} {c : Nat} (h1 : ¬a ≥ b) (h2 : c ≤ b - a) : a + c ≤ b := Nat.le_trans (Nat.add_le_add_left h2 a) (Nat.le_of_eq (Nat.add_sub_cancel' (Nat.le_of_not_le h1)))
theorem ar401 {a : Nat} {b : Nat} {c : Nat} {d : Nat}  : (a + b).succ ≤ c + d + (a + b) + 1 := Nat.le_add_left _ _
theorem ar404 {a : Nat} {b : Nat} {c : Nat} {d : Nat} (h1 : a + b + (c + 1) ≤ d) : a + (b + 1) + c ≤ d := Nat.le_trans (Nat.le_of_eq (Nat.add_right_comm a (b + 1) c ▸ (Nat.add_right_comm (a + b) 1 c))) h1
theorem ar405 {a : Nat} {b : Nat} {c : Nat} {d : Nat} (h1 : a + b + (c + 1) ≤ d) : a + b < d := Nat.lt_of_le_of_lt (Nat.le_add_right _ _) h1
theorem ar406 {a : Nat} {b : Nat} {c : Nat} {d : Nat} (h1 : a + b ≤ 1000) (h2 : c ≤ d + b) (h3 : d ≤ a) : c ≤ 1000 := Nat.le_trans h2 (Nat.le_trans (Nat.add_le_add_right h3 b) h1)
theorem ar408 {a : Nat} {b : Nat} {c : Nat} {d : Nat} (h1 : a + b ≤ c) (h2 : d < b) : a + d ≤ c := Nat.le_trans (Nat.add_le_add_left (Nat.le_of_lt h2) a) h1
theorem ar409 {a : Nat} {b : Nat} {c : Nat} {d : Nat} (h1 : a + b ≤ c) (h2 : d = c) : a + b ≤ d := Nat.le_trans h1 (Nat.le_of_eq (h2).symm)
theorem ar410 {a : Nat} {b : Nat} {c : Nat} {d : Nat} (h1 : a - b = c + 1) (h2 : a = d) : b < d := h2 ▸ Nat.lt_of_sub_eq_succ h1
theorem ar412 {a : Nat} {b : Nat} {c : Nat} {d : Nat} (h1 : a = b) (h2 : c + (d + 1) = b) : c < a := h1 ▸ h2 ▸ Nat.lt_add_of_pos_right (Nat.succ_pos d)
theorem ar413 {a : Nat} {b : Nat} {c : Nat} {d : Nat} (h1 : a = b) (h2 : c ≤ a) (h3 : d = c) : d ≤ b := Nat.le_trans (Nat.le_of_eq h3) (Nat.le_trans h2 (Nat.le_of_eq h1))
theorem ar416 {a : Nat} {b : Nat} {c : Nat} {d : Nat} (h1 : a ≤ 20) (h2 : b ≤ 10 ∧ c ≤ a ∧ d ≤ a) : c ≤ 1000 := Nat.le_trans h2.2.1 (Nat.le_trans h1 (by decide))
theorem ar417 {a : Nat} {b : Nat} {c : Nat} {d : Nat} (h1 : a ≤ 20) (h2 : b ≤ 10 ∧ c ≤ a ∧ d ≤ a) : d ≤ 1000 := Nat.le_trans h2.2.2 (Nat.le_trans h1 (by decide))
theorem ar418 {a : Nat} {b : Nat} {c : Nat} {d : Nat} (h1 : a ≤ b + c) : a ≤ b + (c + 1 + d) := Nat.le_trans h1 (Nat.add_le_add_left (Nat.le_trans (Nat.le_succ c) (Nat.le_add_right _ d)) b)
theorem ar419 {a : Nat} {b : Nat} {c : Nat} {d : Nat} (h1 : a ≤ b + c) : a ≤ b + d + c := Nat.le_trans h1 (Nat.add_le_add_right (Nat.le_add_right b d) c)
theorem ar420 {a : Nat} {b : Nat} {c : Nat} {d : Nat} (h1 : a ≤ b + c) (h2 : b ≤ d) : a ≤ d + c := Nat.le_trans h1 (Nat.add_le_add_right h2 c)
theorem ar421 {a : Nat} {b : Nat} {c : Nat} {d : Nat} (h1 : a ≤ b + c) (h2 : c ≤ d) : a ≤ b + d := Nat.le_trans h1 (Nat.add_le_add_left h2 _)
theorem ar422 {a : Nat} {b : Nat} {c : Nat} {d : Nat} (h1 : a ≤ b - c) (h2 : a < d) : a ≤ min (b - c) d := Nat.le_min.mpr ⟨h1, Nat.le_of_lt h2⟩
theorem ar423 {a : Nat} {b : Nat} {c : Nat} {d : Nat} (h1 : a ≤ b) : c + (c + d) - 1 - b ≤ c + (c + d) - 1 - a := Nat.sub_le_sub_left h1 (c + (c + d) - 1)
theorem ar425 {a : Nat} {b : Nat} {c : Nat} {d : Nat} (h1 : a ≤ b) (h2 : b < c + d) : a < c + d := Nat.lt_of_le_of_lt h1 h2
theorem ar426 {a : Nat} {b : Nat} {c : Nat} {d : Nat} (h1 : a ≤ b) (h2 : b ≤ c) (h3 : c < a + d) : a ≤ b ∧ b < a + d := ⟨h1, Nat.lt_of_le_of_lt h2 h3⟩
theorem ar427 {a : Nat} {b : Nat} {c : Nat} {d : Nat} (h1 : a ≤ b) (h2 : b ≤ c) (h3 : c < a + d) : a ≤ c ∧ c < a + d := ⟨Nat.le_trans h1 h2, h3⟩
theorem ar428 {a : Nat} {b : Nat} {c : Nat} {d : Nat} (h1 : a ≤ b) (h2 : c = a) (h3 : d < c) : d + 1 ≤ b := Nat.lt_of_lt_of_le h3 (Nat.le_trans (Nat.le_of_eq h2) h1)
theorem ar429 {a : Nat} {b : Nat} {c : Nat} {d : Nat} (h1 : a ≤ b) (h2 : c ≤ d + 1) (h3 : d = a) : c ≤ b + 1 := Nat.le_trans h2 (Nat.succ_le_succ (Nat.le_trans (Nat.le_of_eq h3) h1))
theorem ar430 {a : Nat} {b : Nat} {c : Nat} {d : Nat} (h1 : a ≤ b) (h2 : c ≤ d ∧ d < a) : d ≤ b := Nat.le_of_lt (Nat.lt_of_lt_of_le h2.2 h1)
theorem ar433 {a : Nat} {b : Nat} {c : Nat} {d : Nat} (h1 : ¬a ≥ b) (h2 : c < d) : 1 ≤ min (b - a) d := Nat.le_min.mpr ⟨Nat.sub_pos_of_lt (Nat.lt_of_not_le h1), Nat.lt_of_le_of_lt (Nat.zero_le c) h2⟩
theorem ar435 {a : Nat} {b : Nat} {c : Nat} {d : Nat} {e : Nat} (h1 : a + 2 * b ≤ 990) (h2 : c ≤ b) (h3 : d = c) (h4 : e < d) : a + 2 * e + 1 ≤ 1000 := Nat.succ_le_of_lt (Nat.lt_of_le_of_lt (Nat.add_le_add_left (Nat.mul_le_mul_left 2 (Nat.le_trans (Nat.le_of_lt h4) (Nat.le_trans (Nat.le_of_eq h3) h2))) a) (Nat.lt_of_le_of_lt h1 (by decide)))
theorem ar436 {a : Nat} {b : Nat} {c : Nat} {d : Nat} {e : Nat} (h1 : a + 2 * b ≤ 990) (h2 : c ≤ b) (h3 : d = c) (h4 : e < d) : a + 2 * e ≤ 1000 := Nat.le_trans (Nat.add_le_add_left (Nat.mul_le_mul_left 2 (Nat.le_trans (Nat.le_of_lt h4) (Nat.le_trans (Nat.le_of_eq h3) h2))) a) (Nat.le_trans h1 (by decide))
theorem ar437 {a : Nat} {b : Nat} {c : Nat} {d : Nat} {e : Nat} (h1 : a + b < c) (h2 : d + e ≤ b) : a + d + e < c := Nat.lt_of_le_of_lt (Nat.le_trans (Nat.le_of_eq (Nat.add_assoc a d e)) (Nat.add_le_add_left h2 a)) h1
theorem ar438 {a : Nat} {b : Nat} {c : Nat} {d : Nat} {e : Nat} (h1 : a + b ≤ 1000) (h2 : c ≤ d + e) (h3 : e ≤ b) (h4 : d ≤ a) : c ≤ 1000 := Nat.le_trans h2 (Nat.le_trans (Nat.add_le_add h4 h3) h1)
theorem ar441 {a : Nat} {b : Nat} {c : Nat} {d : Nat} {e : Nat} (h1 : a + b ≤ c) (h2 : d < e) (h3 : e < b) : a + d < c := Nat.lt_of_lt_of_le (Nat.add_lt_add_left (Nat.lt_trans h2 h3) a) h1
theorem ar442 {a : Nat} {b : Nat} {c : Nat} {d : Nat} {e : Nat} (h1 : a = b + (c + (d + e))) : b + c + d ≤ a := h1 ▸ Nat.le_trans (Nat.le_of_eq (Nat.add_assoc b c d)) (Nat.add_le_add_left (Nat.add_le_add_left (Nat.le_add_right d e) c) b)
theorem ar443 {a : Nat} {b : Nat} {c : Nat} {d : Nat} {e : Nat} (h1 : a = b + (c + (d + e))) : b + c ≤ a := h1 ▸ Nat.add_le_add_left (Nat.le_add_right c _) b
theorem ar444 {a : Nat} {b : Nat} {c : Nat} {d : Nat} {e : Nat} (h1 : a ≤ 1000) (h2 : b ≤ 1000) (h3 : c ≤ d) (h4 : d = b) (h5 : e = a) : e + c ≤ 16777216 := Nat.le_trans (Nat.add_le_add (Nat.le_trans (Nat.le_of_eq h5) h1) (Nat.le_trans h3 (Nat.le_trans (Nat.le_of_eq h4) h2))) (by decide)
theorem ar445 {a : Nat} {b : Nat} {c : Nat} {d : Nat} {e : Nat} (h1 : a ≤ 160) (h2 : b ≤ 160) (h3 : c = b) (h4 : d = a) (h5 : e ≤ d) : c + e ≤ 100000 := Nat.le_trans (Nat.add_le_add (Nat.le_trans (Nat.le_of_eq h3) h2) (Nat.le_trans h5 (Nat.le_trans (Nat.le_of_eq h4) h1))) (by decide)
theorem ar446 {a : Nat} {b : Nat} {c : Nat} {d : Nat} {e : Nat} (h1 : a ≤ b + c) (h2 : c = d) (h3 : d = e) : a ≤ b + e := Nat.le_trans h1 (Nat.le_of_eq (congrArg (b + ·) (h2.trans h3)))
theorem ar447 {a : Nat} {b : Nat} {c : Nat} {d : Nat} {e : Nat} (h1 : a ≤ b + c) (h2 : d = c + 2 * e) : a ≤ b + d := h2 ▸ Nat.le_trans h1 (Nat.add_le_add_left (Nat.le_add_right c _) b)
theorem ar449 {a : Nat} {b : Nat} {c : Nat} {d : Nat} {e : Nat} (h1 : a ≤ b) (h2 : c + d ≤ a) (h3 : e < d) : c + e < b := Nat.lt_of_lt_of_le (Nat.add_lt_add_left h3 c) (Nat.le_trans h2 h1)
theorem ar451 {a : Nat} {b : Nat} {c : Nat} {d : Nat} {e : Nat} (h1 : a ≤ b) (h2 : c ≤ d) (h3 : e < a ∨ d ≤ e) : ¬(b ≤ e ∧ e < c) := fun q => h3.elim (fun r => absurd (Nat.le_trans h1 q.1) (Nat.not_le.mpr r)) fun r => absurd (Nat.lt_of_lt_of_le q.2 (Nat.le_trans h2 r)) (Nat.lt_irrefl e)
theorem ar454 {a : Nat} {b : Nat} {c : Nat} {d : Nat} {e : Nat} {f : Nat} (h1 : a ≤ b) (h2 : c - d = e + 1) (h3 : f ≤ d) (h4 : c = a) : f ≤ b := Nat.le_trans h3 (Nat.le_trans (Nat.le_of_lt (Nat.lt_of_sub_eq_succ h2)) (Nat.le_trans (Nat.le_of_eq h4) h1))
theorem byv {G : Prop} (h : ∀ P : Prop, (G → P) → P) : G := h G id
noncomputable def gallop' : Bool → Keyed → Array Keyed → Nat → Nat → Nat → StateT SortSt Sem (Option Nat) := sortPriv% PySem.Builtin.gallop
noncomputable def setMinGallop' : Nat → StateT SortSt Sem Unit := sortPriv% PySem.Builtin.setMinGallop
noncomputable def mergeLo' : Array Keyed → Array Keyed → StateT SortSt Sem (Array Keyed) := sortPriv% PySem.Builtin.mergeLo
noncomputable def mergeHi' : Array Keyed → Array Keyed → StateT SortSt Sem (Array Keyed) := sortPriv% PySem.Builtin.mergeHi
theorem setMinGallop'_eq (g : Nat) : setMinGallop' g = modify (fun s => SortSt.mk' (kindOf s) (arrOf s) (pendingOf s) g (failedOf s)) := rfl
theorem gallop'_eq (left : Bool) (key : Keyed) (arr : Array Keyed) (base n hint : Nat) : gallop' left key arr base n hint = (do
  let beyond (i : Nat) : StateT SortSt Sem (Option Bool) := do
    let x ← elem' arr (base + i)
    if left then lt' x key else return (← lt' key x).map (!·)
  let mut lastofs := 0
  let mut ofs := 1
  let mut lo := 0
  let mut hi := 0
  let some right ← beyond hint | return none
  if right then
    let maxofs := n - hint
    for _ in [0:n] do
      if ofs ≥ maxofs then break
      let some more ← beyond (hint + ofs) | return none
      if !more then break
      lastofs := ofs
      ofs := 2 * ofs + 1
    lo := hint + lastofs + 1
    hi := hint + min ofs maxofs
  else
    let maxofs := hint + 1
    for _ in [0:n] do
      if ofs ≥ maxofs then break
      let some found ← beyond (hint - ofs) | return none
      if found then break
      lastofs := ofs
      ofs := 2 * ofs + 1
    lo := hint + 1 - min ofs maxofs
    hi := hint - lastofs
  for _ in [0:n] do
    if lo ≥ hi then break
    let m := lo + (hi - lo) / 2
    let some more ← beyond m | return none
    if more then lo := m + 1 else hi := m
  return some hi) := rfl
theorem mergeAt'_eq (i : Nat) : mergeAt' i = (do
  let s ← get
  let (some (sa, na, power), some (sb, nb, _)) := ((pendingOf s)[i]?, (pendingOf s)[i + 1]?) | unsupported "internal:list.sort.pending"
  set (setPending s (((pendingOf s).setIfInBounds i (sa, na + nb, power)).eraseIdxIfInBounds (i + 1)))
  let some k ← gallop' false (← elem' (arrOf s) sb) (arrOf s) sa na 0 | return false
  let (sa, na) := (sa + k, na - k)
  if na == 0 then return true
  let some nb ← gallop' true (← elem' (arrOf s) (sa + na - 1)) (arrOf s) sb nb (nb - 1) | return false
  if nb == 0 then return true
  let x := (arrOf s).extract sa sb
  let y := (arrOf s).extract sb (sb + nb)
  let merged ← if na ≤ nb then mergeLo' x y else mergeHi' x y
  modify fun s => setArr s (merged.toList.zipIdx.foldl (fun a (p, j) => a.setIfInBounds (sa + j) p) (arrOf s))
  return (failedOf (← get)).isNone) := rfl
noncomputable def llt : List Int → List Int → Bool
  | [], [] => false
  | [], _ :: _ => true
  | _ :: _, [] => false
  | a :: r, b :: t => decide (a < b) || (decide (a = b) && llt r t)
theorem llt_cons (a : Int) (r : List Int) (b : Int) (t : List Int) : llt (a :: r) (b :: t) = true ↔ a < b ∨ (a = b ∧ llt r t = true) := by
  simp [llt]
theorem llt_irrefl : ∀ a : List Int, llt a a = false
  | [] => rfl
  | a :: r => by simp [llt, llt_irrefl r]
theorem llt_trans : ∀ a b c : List Int, llt a b = true → llt b c = true → llt a c = true
  | [], [], _, h, _ => by cases h
  | [], _ :: _, [], _, h => by cases h
  | [], _ :: _, _ :: _, _, _ => rfl
  | _ :: _, [], _, h, _ => by cases h
  | _ :: _, _ :: _, [], _, h => by cases h
  | a :: r, b :: t, c :: u, h1, h2 => by
    rw [llt_cons] at *
    rcases h1 with h1 | ⟨h1, h1'⟩ <;> rcases h2 with h2 | ⟨h2, h2'⟩
    · exact .inl (by (first | exact ar176 h1 h2 | lia))
    · exact .inl (by (first | exact ar177 h1 h2 | lia))
    · exact .inl (by (first | exact ar178 h1 h2 | lia))
    · exact .inr ⟨by (first | exact ar179 h1 h2 | lia), llt_trans r t u h1' h2'⟩
theorem llt_total : ∀ a b : List Int, llt a b = false → llt b a = false → a = b
  | [], [], _, _ => rfl
  | [], _ :: _, h, _ => by cases h
  | _ :: _, [], _, h => by cases h
  | a :: r, b :: t, h1, h2 => by
    simp only [llt, Bool.or_eq_false_iff, Bool.and_eq_false_iff, decide_eq_false_iff_not] at h1 h2
    have e : a = b := by lia
    subst e
    have h1' : llt r t = false := h1.2.resolve_left (by simp)
    have h2' : llt t r = false := h2.2.resolve_left (by simp)
    rw [llt_total r t h1' h2']
/-- a ≤ b -/
noncomputable def lle (a b : List Int) : Prop := llt b a = false
theorem lle_refl (a : List Int) : lle a a := llt_irrefl a
theorem lle_of_llt {a b : List Int} (h : llt a b = true) : lle a b := by
  unfold lle
  cases e : llt b a with
  | false => rfl
  | true => have := llt_trans _ _ _ h e; rw [llt_irrefl] at this; cases this
theorem lle_trans {a b c : List Int} (h1 : lle a b) (h2 : lle b c) : lle a c := by
  unfold lle at *
  cases e : llt c a with
  | false => rfl
  | true =>
    cases e1 : llt a b with
    | true =>
      have := llt_trans _ _ _ e e1
      rw [h2] at this; cases this
    | false =>
      have := llt_total a b e1 h1
      subst this
      rw [h2] at e; cases e
theorem lle_antisymm {a b : List Int} (h1 : lle a b) (h2 : lle b a) : a = b := llt_total a b h2 h1
theorem llt_of_lle_ne {a b : List Int} (h : lle a b) (hn : a ≠ b) : llt a b = true := by
  cases e : llt a b with
  | true => rfl
  | false => exact absurd (llt_total a b e h) hn
theorem llt_lle {a b c : List Int} (h1 : llt a b = true) (h2 : lle b c) : llt a c = true := by
  cases e : llt a c with
  | true => rfl
  | false =>
    have : lle c a := e
    have := lle_trans h2 this
    unfold lle at this
    rw [h1] at this; cases this
theorem lle_llt {a b c : List Int} (h1 : lle a b) (h2 : llt b c = true) : llt a c = true := by
  cases e : llt a c with
  | true => rfl
  | false =>
    have : lle c a := e
    have := lle_trans this h1
    unfold lle at this
    rw [h2] at this; cases this
theorem lle_total (a b : List Int) : lle a b ∨ lle b a := by
  cases e : llt b a with
  | false => exact .inl e
  | true => exact .inr (lle_of_llt e)
/-- the comparisons of a sort answer as the keys do -/
structure CmpOk (prog : Program) (w : World) (A : Around) (s : Shared) (κ : SortKind) (S : Keyed → Prop) (key : Keyed → List Int) : Prop where
  lt : ∀ x y, S x → S y → ∀ (E : Value → Shared → Prop) (Q : Option Bool → SortSt → Prop) (st : SortSt), kindOf st = κ → Q (some (llt (key x) (key y))) st → wpS (model prog w) A E s (lt' x y) Q st
section
variable {prog : Program} {w : World} {A : Around} {E : Value → Shared → Prop} {s : Shared} {κ : SortKind} {S : Keyed → Prop} {key : Keyed → List Int}
theorem wpS_elem {arr : Array Keyed} {i : Nat} {Q : Keyed → SortSt → Prop} {st : SortSt} (hi : i < arr.size) (h : Q arr[i] st) : wpS (model prog w) A E s (elem' arr i) Q st := by
  rw [elem'_eq, getElem?_pos arr i hi]
  exact wpS_pure h
theorem mid_lt {l r : Nat} (h : l < r) : l ≤ l + (r - l) / 2 ∧ l + (r - l) / 2 < r := ⟨Nat.le_add_right _ _, Nat.add_lt_of_lt_sub' (Nat.div_lt_self (Nat.sub_pos_of_lt h) (by decide))⟩
theorem wpS_bin {st : SortSt} {Q : Option Nat → SortSt → Prop} {B : Nat → Bool} {n lo hi : Nat} {f : Nat → Option (Option Nat) × Nat × Nat → StateT SortSt Sem (ForInStep (Option (Option Nat) × Nat × Nat))} {k : Option (Option Nat) × Nat × Nat → StateT SortSt Sem (Option Nat)}
    (mono : ∀ i j, i ≤ j → j < n → B j = true → B i = true)
    (hf : ∀ x l r (R : ForInStep (Option (Option Nat) × Nat × Nat) → SortSt → Prop), l ≤ r → r ≤ n → (l ≥ r → R (.done (none, l, r)) st) →
      (l < r → R (if B (l + (r - l) / 2) = true then .yield (none, l + (r - l) / 2 + 1, r) else .yield (none, l, l + (r - l) / 2)) st) → wpS (model prog w) A E s (f x (none, l, r)) R st)
    (hk : ∀ l r, Q (some r) st → wpS (model prog w) A E s (k (none, l, r)) Q st)
    (hlh : lo ≤ hi) (hhn : hi ≤ n) (hlo : ∀ i, i < lo → B i = true) (hhi : ∀ i, hi ≤ i → i < n → B i = false)
    (h : ∀ r, r ≤ n → (∀ i, i < r → B i = true) → (∀ i, r ≤ i → i < n → B i = false) → Q (some r) st) :
    wpS (model prog w) A E s (forIn [:n] (none, lo, hi) f >>= k) Q st := by
  refine wpS_bind (wpS_mono (wpS_forRange (I := fun x c st' => st' = st ∧ ∃ l r, c = (none, l, r) ∧ l ≤ r ∧ r ≤ n ∧ r - l ≤ n - x ∧ (∀ i, i < l → B i = true) ∧ (∀ i, r ≤ i → i < n → B i = false))
    (Q := fun c st' => st' = st ∧ ∃ r, c = (none, r, r) ∧ r ≤ n ∧ (∀ i, i < r → B i = true) ∧ (∀ i, r ≤ i → i < n → B i = false)) ?step ?fin ⟨rfl, lo, hi, rfl, hlh, hhn, by (first | exact ar382 hhn | lia), hlo, hhi⟩) ?post)
  case fin =>
    intro c st' hp2_
    refine Mine.byv fun P_ kP_ => ?_
    obtain ⟨rfl, l, r, rfl, h1, h2, h3, h4, h5⟩ := hp2_
    refine kP_ ?_
    clear kP_ P_
    have : l = r := by (first | exact ar108 h1 h3 | lia)
    subst this
    exact ⟨rfl, l, rfl, h2, h4, h5⟩
  case post =>
    intro c st' hp2_
    refine Mine.byv fun P_ kP_ => ?_
    obtain ⟨rfl, r, rfl, h2, h4, h5⟩ := hp2_
    refine kP_ ?_
    clear kP_ P_
    exact hk r r (h r h2 h4 h5)
  case step =>
    intro x c st' _ hx hp5_
    refine Mine.byv fun P_ kP_ => ?_
    obtain ⟨rfl, l, r, rfl, h1, h2, h3, h4, h5⟩ := hp5_
    refine kP_ ?_
    clear kP_ P_
    refine hf x l r _ h1 h2 (fun hge => ?_) fun hlt => ?_
    · have : l = r := by (first | exact ar92 h1 hge | lia)
      subst this
      exact ⟨rfl, l, rfl, h2, h4, h5⟩
    · have hm := mid_lt hlt
      generalize l + (r - l) / 2 = m at hm ⊢
      have m1 := hm.1
      have m2 := hm.2
      cases hb : B m with
      | true =>
        rw [if_pos rfl]
        exact ⟨rfl, _, _, rfl, by (first | exact ar380 hm | lia), by (first | exact ar1 h2 | lia), by (first | exact ar121 h3 hm | lia), fun i hi => mono i m (Nat.le_of_lt_succ hi) (Nat.lt_of_lt_of_le m2 h2) hb, h5⟩
      | false =>
        rw [if_neg Bool.false_ne_true]
        refine ⟨rfl, _, _, rfl, by (first | exact ar107 hm | lia), by (first | exact ar430 h2 hm | lia), by (first | exact ar122 h3 hm | lia), h4, fun i hi hin => ?_⟩
        cases hbi : B i with
        | false => rfl
        | true => rw [mono _ i hi hin hbi] at hb; cases hb
theorem wpS_gallop (C : CmpOk prog w A s κ S key) {left : Bool} {k₀ : Keyed} {arr : Array Keyed} {base n hint : Nat} {st : SortSt} {Q : Option Nat → SortSt → Prop} (hκ : kindOf st = κ) (hk : S k₀) (hS : ∀ i, i < n → ∀ x, arr[base + i]? = some x → S x)
    (hn : base + n ≤ arr.size) (hh : hint < n) (B : Nat → Bool) (hB : ∀ i, i < n → ∀ x, arr[base + i]? = some x → B i = if left = true then llt (key x) (key k₀) else !llt (key k₀) (key x))
    (mono : ∀ i j, i ≤ j → j < n → B j = true → B i = true)
    (h : ∀ r, r ≤ n → (∀ i, i < r → B i = true) → (∀ i, r ≤ i → i < n → B i = false) → Q (some r) st) : wpS (model prog w) A E s (gallop' left k₀ arr base n hint) Q st := by
  rw [gallop'_eq]
  have beyond : ∀ (i : Nat) (Q : Option Bool → SortSt → Prop), i < n → Q (some (B i)) st → wpS (model prog w) A E s (do let x ← elem' arr (base + i); if left = true then lt' x k₀ else (do let r ← lt' k₀ x; return r.map (!·))) Q st := by
    intro i Q hi hq
    refine wpS_bind (wpS_elem (by (first | exact ar2 hn hi | lia)) ?_)
    have e : arr[base + i]? = some arr[base + i] := getElem?_pos arr (base + i) (by (first | exact ar2 hn hi | lia))
    have hb := hB i hi _ e
    have hs := hS i hi _ e
    cases left with
    | true =>
      simp only [if_true] at hb ⊢
      exact C.lt _ _ hs hk _ _ _ hκ (by rw [← hb]; exact hq)
    | false =>
      simp only [Bool.false_eq_true, if_false] at hb ⊢
      exact wpS_bind (C.lt _ _ hk hs _ _ _ hκ (wpS_pure (by rw [hb] at hq; exact hq)))
  dsimp only
  refine wpS_bind (beyond hint _ hh ?_)
  dsimp only
  cases hbh : B hint with
  | true =>
    simp only [if_true]
    refine wpS_bind (wpS_mono (wpS_forRange (I := fun x c st' => st' = st ∧ ∃ l o, c = (none, l, o) ∧ l < o ∧ x + 1 ≤ o ∧ l < n - hint ∧ B (hint + l) = true)
      (Q := fun c st' => st' = st ∧ ∃ l o, c = (none, l, o) ∧ l < o ∧ l < n - hint ∧ B (hint + l) = true ∧ (o ≥ n - hint ∨ B (hint + o) = false)) ?step ?fin ⟨rfl, 0, 1, rfl, by (first | exact ar44 | lia), by (first | exact ar43 | lia), by (first | exact ar291 hh | lia), hbh⟩) ?post)
    case fin =>
      intro c st' hp2_
      refine Mine.byv fun P_ kP_ => ?_
      obtain ⟨rfl, l, o, rfl, h1, h2, h3, h4⟩ := hp2_
      refine kP_ ?_
      clear kP_ P_
      exact ⟨rfl, l, o, rfl, h1, h3, h4, .inl (by (first | exact ar394 h2 | lia))⟩
    case post =>
      intro c st' hp2_
      refine Mine.byv fun P_ kP_ => ?_
      obtain ⟨rfl, l, o, rfl, h1, h3, h4, h5⟩ := hp2_
      refine kP_ ?_
      clear kP_ P_
      dsimp only
      refine wpS_bin mono ?_ ?_ (Nat.add_le_add_left (Nat.le_min.mpr ⟨h1, h3⟩) hint) (Nat.le_trans (Nat.add_le_add_left (Nat.min_le_right _ _) hint) (Nat.le_of_eq (Nat.add_sub_cancel' (Nat.le_of_lt hh)))) (fun i hi => mono i (hint + l) (Nat.le_of_lt_succ hi) (Nat.add_lt_of_lt_sub' h3) h4) (fun i hi hin => ?_) h
      · intro x l' r' R h1 h2 hd hy
        dsimp only
        by_cases hge : l' ≥ r'
        · rw [if_pos hge]
          exact wpS_pure (hd hge)
        · rw [if_neg hge]
          refine wpS_bind (beyond _ _ (Nat.lt_of_lt_of_le (mid_lt (Nat.lt_of_not_le hge)).2 h2) ?_)
          have hy' := hy (Nat.lt_of_not_le hge)
          dsimp only
          cases hb : B (l' + (r' - l') / 2) with
          | true =>
            rw [hb] at hy'
            simp only [if_true] at hy' ⊢
            exact wpS_pure hy'
          | false =>
            rw [hb] at hy'
            simp only [Bool.false_eq_true, if_false] at hy' ⊢
            exact wpS_pure hy'
      · exact fun l r hq => wpS_pure hq
      · by_cases ho : n - hint ≤ o
        · rw [Nat.min_eq_right ho, Nat.add_sub_cancel' (Nat.le_of_lt hh)] at hi
          exact absurd hin (Nat.not_lt.mpr hi)
        · rw [Nat.min_eq_left (Nat.le_of_not_le ho)] at hi
          have h5 := h5.resolve_left ho
          cases hbi : B i with
          | false => rfl
          | true => rw [mono (hint + o) i hi hin hbi] at h5; cases h5
    case step =>
      intro x c st' _ hx hp5_
      refine Mine.byv fun P_ kP_ => ?_
      obtain ⟨rfl, l, o, rfl, h1, h2, h3, h4⟩ := hp5_
      refine kP_ ?_
      clear kP_ P_
      dsimp only
      by_cases hge : o ≥ n - hint
      · rw [if_pos hge]
        exact wpS_pure ⟨rfl, l, o, rfl, h1, h3, h4, .inl hge⟩
      · rw [if_neg hge]
        refine wpS_bind (beyond _ _ (by lia) ?_)
        dsimp only
        cases hb : B (hint + o) with
        | true =>
          simp only [Bool.not_true, Bool.false_eq_true, if_false]
          exact wpS_pure ⟨rfl, o, 2 * o + 1, rfl, by (first | exact ar63 | lia), by (first | exact ar77 h2 | lia), by (first | exact ar397 hge | lia), hb⟩
        | false =>
          simp only [Bool.not_false, if_true]
          exact wpS_pure ⟨rfl, l, o, rfl, h1, h3, h4, .inr hb⟩
  | false =>
    simp only [Bool.false_eq_true, if_false]
    refine wpS_bind (wpS_mono (wpS_forRange (I := fun x c st' => st' = st ∧ ∃ l o, c = (none, l, o) ∧ l < o ∧ x + 1 ≤ o ∧ l ≤ hint ∧ B (hint - l) = false)
      (Q := fun c st' => st' = st ∧ ∃ l o, c = (none, l, o) ∧ l < o ∧ l ≤ hint ∧ B (hint - l) = false ∧ (o ≥ hint + 1 ∨ B (hint - o) = true)) ?step2 ?fin2 ⟨rfl, 0, 1, rfl, by (first | exact ar44 | lia), by (first | exact ar43 | lia), by (first | exact ar58 | lia), hbh⟩) ?post2)
    case fin2 =>
      intro c st' hp2_
      refine Mine.byv fun P_ kP_ => ?_
      obtain ⟨rfl, l, o, rfl, h1, h2, h3, h4⟩ := hp2_
      refine kP_ ?_
      clear kP_ P_
      exact ⟨rfl, l, o, rfl, h1, h3, h4, .inl (by (first | exact ar367 hh h2 | lia))⟩
    case post2 =>
      intro c st' hp2_
      refine Mine.byv fun P_ kP_ => ?_
      obtain ⟨rfl, l, o, rfl, h1, h3, h4, h5⟩ := hp2_
      refine kP_ ?_
      clear kP_ P_
      dsimp only
      refine wpS_bin mono ?_ ?_ (Nat.le_trans (Nat.sub_le_sub_left (Nat.le_min.mpr ⟨h1, Nat.succ_le_succ h3⟩) (hint + 1)) (Nat.le_of_eq (Nat.succ_sub_succ hint l))) (Nat.le_trans (Nat.sub_le _ _) (Nat.le_of_lt hh)) (fun i hi => ?_) (fun i hi hin => ?_) h
      · intro x l' r' R h1 h2 hd hy
        dsimp only
        by_cases hge : l' ≥ r'
        · rw [if_pos hge]
          exact wpS_pure (hd hge)
        · rw [if_neg hge]
          refine wpS_bind (beyond _ _ (Nat.lt_of_lt_of_le (mid_lt (Nat.lt_of_not_le hge)).2 h2) ?_)
          have hy' := hy (Nat.lt_of_not_le hge)
          dsimp only
          cases hb : B (l' + (r' - l') / 2) with
          | true =>
            rw [hb] at hy'
            simp only [if_true] at hy' ⊢
            exact wpS_pure hy'
          | false =>
            rw [hb] at hy'
            simp only [Bool.false_eq_true, if_false] at hy' ⊢
            exact wpS_pure hy'
      · exact fun l r hq => wpS_pure hq
      · by_cases ho : hint + 1 ≤ o
        · rw [Nat.min_eq_right ho, Nat.sub_self] at hi
          exact absurd hi (Nat.not_lt_zero _)
        · rw [Nat.min_eq_left (Nat.le_of_not_le ho)] at hi
          exact mono i (hint - o) (by lia) (Nat.lt_of_le_of_lt (Nat.sub_le _ _) hh) (h5.resolve_left ho)
      · cases hbi : B i with
        | false => rfl
        | true => rw [mono (hint - l) i hi hin hbi] at h4; cases h4
    case step2 =>
      intro x c st' _ hx hp5_
      refine Mine.byv fun P_ kP_ => ?_
      obtain ⟨rfl, l, o, rfl, h1, h2, h3, h4⟩ := hp5_
      refine kP_ ?_
      clear kP_ P_
      dsimp only
      by_cases hge : o ≥ hint + 1
      · rw [if_pos hge]
        exact wpS_pure ⟨rfl, l, o, rfl, h1, h3, h4, .inl hge⟩
      · rw [if_neg hge]
        refine wpS_bind (beyond _ _ (by (first | exact ar364 hh | lia)) ?_)
        dsimp only
        cases hb : B (hint - o) with
        | true =>
          simp only [if_true]
          exact wpS_pure ⟨rfl, l, o, rfl, h1, h3, h4, .inr hb⟩
        | false =>
          simp only [Bool.false_eq_true, if_false]
          exact wpS_pure ⟨rfl, o, 2 * o + 1, rfl, by (first | exact ar63 | lia), by (first | exact ar77 h2 | lia), by (first | exact ar333 hge | lia), hb⟩
end
theorem mem_sym {α : Type} {a x : α} {l : List α} (h : a ∈ x :: l) : x = a ∨ a ∈ l := by
  cases h with
  | head => exact .inl rfl
  | tail _ h => exact .inr h
theorem nin_nil {α : Type} {a : α} : a ∉ ([] : List α) := fun h => nomatch h
theorem nin_cons {α : Type} {a x : α} {l : List α} (h : a ≠ x) (t : a ∉ l) : a ∉ x :: l := fun q => by
  cases q with
  | head => exact h rfl
  | tail _ q => exact t q
theorem nin1 {α : Type} {a x : α} (h : a ≠ x) : a ∉ [x] := nin_cons h nin_nil
theorem all_nil {α : Type} {P : α → Prop} : ∀ a ∈ ([] : List α), P a := fun _ h => nomatch h
theorem all_cons {α : Type} {P : α → Prop} {x : α} {l : List α} (h : P x) (t : ∀ a ∈ l, P a) : ∀ a ∈ x :: l, P a := fun a q => by
  cases q with
  | head => exact h
  | tail _ q => exact t a q
theorem all1 {α : Type} {P : α → Prop} {x : α} (h : P x) : ∀ a ∈ [x], P a := all_cons h all_nil
theorem dict_nin {c d a : Addr} {fp : List Addr} (e : (PySem.W.instObj c d).dict = some a) (h : d ∉ fp) : a ∉ fp := by
  cases e; exact h
/-- the surroundings of a call, written out -/
noncomputable abbrev Ar (dp : Nat) (fr : Option (List Env)) (gd : Option (List Code)) (un : Nat) : Around := { handled := none, depth := dp, frames := fr, guards := gd, units := un }
/-- what stands in h stands in h' -/
noncomputable def Sub (h h' : Heap) : Prop := ∀ b o, h.get? b = some o → h'.get? b = some o
/-- but for the places fp -/
noncomputable def Keeps (fp : List Addr) (h h' : Heap) : Prop := ∀ b o, b ∉ fp → h.get? b = some o → h'.get? b = some o
theorem Sub.refl (h : Heap) : Sub h h := fun _ _ e => e
theorem Sub.trans {a b c : Heap} (x : Sub a b) (y : Sub b c) : Sub a c := fun q o e => y q o (x q o e)
theorem Sub.keeps {a b : Heap} (x : Sub a b) (fp : List Addr) : Keeps fp a b := fun q o _ e => x q o e
theorem Keeps.sub {a b : Heap} (x : Keeps [] a b) : Sub a b := fun q o e => x q o (by first | exact nin_nil | exact all_nil | ((repeat (first | exact .head _ | refine .tail _ ?_)); done) | simp) e
theorem Keeps.trans {fp : List Addr} {a b c : Heap} (x : Keeps fp a b) (y : Keeps fp b c) : Keeps fp a c := fun q o n e => y q o n (x q o n e)
theorem Keeps.mono {fp fq : List Addr} {a b : Heap} (x : Keeps fp a b) (h : ∀ q ∈ fp, q ∈ fq) : Keeps fq a b := fun q o n e => x q o (fun m => n (h q m)) e
theorem Fr.toSub {g h : Heap} {L : Addr} {m : Str → Option Value} (F : Fr g L h m) : Sub g h := F.keep
theorem Fr.use {g h h' : Heap} {L : Addr} {m : Str → Option Value} {fp : List Addr} (F : Fr g L h m) (k : Keeps fp h h') (hL : L ∉ fp) (hg : ∀ a ∈ fp, g.get? a = none) : Fr g L h' m := by
  refine Mine.byv fun P_ kP_ => ?_
  obtain ⟨o, a1, a2, ho, a3⟩ := F.ns
  refine kP_ ?_
  clear kP_ P_
  refine ⟨⟨o, a1, a2, k _ _ hL ho, a3⟩, fun b o e => k b o (fun q => ?_) (F.keep b o e), F.above⟩
  rw [hg b q] at e; cases e
theorem News.use {g h h' : Heap} {L : Addr} {news : List (Addr × Obj)} {fp : List Addr} (N : News g L h news) (k : Keeps fp h h') (off : ∀ p ∈ news, p.1 ∉ fp) : News g L h' news :=
  fun p hp => ⟨k _ _ (off p hp) (N p hp).1, (N p hp).2⟩
theorem News.pick {g h : Heap} {L : Addr} {news l : List (Addr × Obj)} (N : News g L h news) (s : ∀ p ∈ l, p ∈ news) : News g L h l := fun p hp => N p (s p hp)
theorem News.plus {g h : Heap} {L : Addr} {a b : List (Addr × Obj)} (N : News g L h a) (M : News g L h b) : News g L h (a ++ b) :=
  fun p hp => (List.mem_append.mp hp).elim (N p) (M p)
/-- a tuple object -/
noncomputable def IsTupO (o : Obj) : Prop := o.cls = .type "tuple" ∧ ∃ xs n, o.data = .seq xs n
/-- a datum of tuples, ints and texts, as it stands in the heap -/
noncomputable def DatH (h : Heap) (v : Value) (d : Dat) : Prop := ∃ l : List (Addr × Obj), (∀ p ∈ l, h.get? p.1 = some p.2 ∧ IsTupO p.2) ∧ DatIn l v d
noncomputable def DatsH (h : Heap) (vs : List Value) (ds : List Dat) : Prop := ∃ l : List (Addr × Obj), (∀ p ∈ l, h.get? p.1 = some p.2 ∧ IsTupO p.2) ∧ DatAll l vs ds
theorem DatH.up {h h' : Heap} {v : Value} {d : Dat} (x : DatH h v d) (s : Sub h h') : DatH h' v d := let ⟨l, a, b⟩ := x; ⟨l, fun p hp => ⟨s _ _ (a p hp).1, (a p hp).2⟩, b⟩
theorem DatsH.up {h h' : Heap} {v : List Value} {d : List Dat} (x : DatsH h v d) (s : Sub h h') : DatsH h' v d := let ⟨l, a, b⟩ := x; ⟨l, fun p hp => ⟨s _ _ (a p hp).1, (a p hp).2⟩, b⟩
/-- at the places fp no tuple stands -/
noncomputable def NoTup (h : Heap) (fp : List Addr) : Prop := ∀ a ∈ fp, ∀ o, h.get? a = some o → ¬ IsTupO o
theorem DatH.keeps {h h' : Heap} {v : Value} {d : Dat} {fp : List Addr} (x : DatH h v d) (s : Keeps fp h h') (n : NoTup h fp) : DatH h' v d :=
  let ⟨l, a, b⟩ := x; ⟨l, fun p hp => ⟨s _ _ (fun q => n _ q _ (a p hp).1 (a p hp).2) (a p hp).1, (a p hp).2⟩, b⟩
theorem DatsH.keeps {h h' : Heap} {v : List Value} {d : List Dat} {fp : List Addr} (x : DatsH h v d) (s : Keeps fp h h') (n : NoTup h fp) : DatsH h' v d :=
  let ⟨l, a, b⟩ := x; ⟨l, fun p hp => ⟨s _ _ (fun q => n _ q _ (a p hp).1 (a p hp).2) (a p hp).1, (a p hp).2⟩, b⟩
theorem DatH.int (h : Heap) (i : Int) (t : Tok) : DatH h (.int i t) (.int i) := ⟨[], by simp, .int i t⟩
theorem DatH.str (h : Heap) (x : Str) (t : Tok) : DatH h (.str x t) (.str x) := ⟨[], by simp, .str x t⟩
theorem DatsH.nil (h : Heap) : DatsH h [] [] := ⟨[], by simp, .nil⟩
theorem DatsH.cons {h : Heap} {v : Value} {d : Dat} {vs : List Value} {ds : List Dat} (x : DatH h v d) (y : DatsH h vs ds) : DatsH h (v :: vs) (d :: ds) := by
  refine Mine.byv fun P_ kP_ => ?_
  obtain ⟨l, a, b⟩ := x
  obtain ⟨l', a', b'⟩ := y
  refine kP_ ?_
  clear kP_ P_
  refine ⟨l ++ l', fun p hp => (List.mem_append.mp hp).elim (a p) (a' p), .cons (b.mono fun p hp => List.mem_append.mpr (.inl hp)) (b'.mono fun p hp => List.mem_append.mpr (.inr hp))⟩
theorem DatsH.uncons {h : Heap} {v : Value} {vs : List Value} {ds : List Dat} (x : DatsH h (v :: vs) ds) : ∃ d ds', ds = d :: ds' ∧ DatH h v d ∧ DatsH h vs ds' := by
  obtain ⟨l, a, b⟩ := x
  cases b with
  | cons p q => exact ⟨_, _, rfl, ⟨l, a, p⟩, ⟨l, a, q⟩⟩
theorem DatsH.length {h : Heap} {vs : List Value} {ds : List Dat} (x : DatsH h vs ds) : vs.length = ds.length := let ⟨_, _, b⟩ := x; b.length
theorem DatsH.append {h : Heap} {vs ws : List Value} {ds es : List Dat} (x : DatsH h vs ds) (y : DatsH h ws es) : DatsH h (vs ++ ws) (ds ++ es) := by
  refine Mine.byv fun P_ kP_ => ?_
  obtain ⟨l, a, b⟩ := x
  obtain ⟨l', a', b'⟩ := y
  refine kP_ ?_
  clear kP_ P_
  exact ⟨l ++ l', fun p hp => (List.mem_append.mp hp).elim (a p) (a' p), (b.mono fun p hp => List.mem_append.mpr (.inl hp)).append (b'.mono fun p hp => List.mem_append.mpr (.inr hp))⟩
theorem DatsH.get {h : Heap} {vs : List Value} {ds : List Dat} (x : DatsH h vs ds) {k : Nat} (hk : k < ds.length) : ∃ v, vs[k]? = some v ∧ DatH h v (ds[k]'hk) := by
  refine Mine.byv fun P_ kP_ => ?_
  obtain ⟨l, a, b⟩ := x
  obtain ⟨v, e, hv⟩ := b.get hk
  refine kP_ ?_
  clear kP_ P_
  exact ⟨v, e, l, a, hv⟩
noncomputable abbrev tupObj (vs : List Value) (n : Nat) : Obj := { cls := .type "tuple", data := .seq vs.toArray n }
theorem DatH.tuple {h : Heap} {a : Addr} {vs : List Value} {n : Nat} {ds : List Dat} (e : h.get? a = some (tupObj vs n)) (x : DatsH h vs ds) : DatH h (.ref a) (.tuple ds) := by
  obtain ⟨l, b, c⟩ := x
  refine ⟨(a, tupObj vs n) :: l, fun p hp => ?_, .tuple (.head _) (c.mono fun p hp => .tail _ hp)⟩
  rcases Mine.mem_sym hp with rfl | hp
  · exact ⟨e, rfl, _, _, rfl⟩
  · exact b p hp
theorem DatH.untuple {h : Heap} {v : Value} {ds : List Dat} (x : DatH h v (.tuple ds)) : ∃ a vs n, v = .ref a ∧ h.get? a = some (tupObj vs n) ∧ DatsH h vs ds := by
  obtain ⟨l, b, c⟩ := x
  cases c with
  | @tuple a vs n _ hm r => exact ⟨a, vs, n, rfl, (b _ hm).1, l, b, r⟩
theorem DatH.unint {h : Heap} {v : Value} {i : Int} (x : DatH h v (.int i)) : ∃ t, v = .int i t := by
  obtain ⟨l, b, c⟩ := x
  cases c with
  | int i t => exact ⟨t, rfl⟩
theorem DatH.unstr {h : Heap} {v : Value} {i : Str} (x : DatH h v (.str i)) : ∃ t, v = .str i t := by
  obtain ⟨l, b, c⟩ := x
  cases c with
  | str i t => exact ⟨t, rfl⟩
/-- a frame's map: the names st may have turned, the others are as in m₀ -/
noncomputable def Same (st : List Str) (m m₀ : Str → Option Value) : Prop := ∀ z, st.contains z = false → m z = m₀ z
theorem Same.refl (st : List Str) (m : Str → Option Value) : Same st m m := fun _ _ => rfl
theorem Same.form {st : List Str} {m m₀ : Str → Option Value} (h : Same st m m₀) : ∃ u : Str → Option Value, m = fun z => if st.contains z then u z else m₀ z :=
  ⟨m, funext fun z => by cases q : st.contains z with
    | true => rfl
    | false => exact h z q⟩
theorem wp_let {α : Type} {M : Model} {A : Around} {t : Sem α} {Q : α → Shared → Prop} {E : Value → Shared → Prop} {s1 : Shared} (k : let s' : Shared := s1; wpAny M A t Q E s') : wpAny M A t Q E s1 := k
theorem Same.elimF {st : List Str} {m m₀ : Str → Option Value} {g h : Heap} {L : Addr} {G : Prop} (hm : Same st m m₀) (F : Fr g L h m) (k : ∀ u : Str → Option Value, let mm : Str → Option Value := fun z => if st.contains z then u z else m₀ z; Fr g L h mm → G) : G :=
  let ⟨u, e⟩ := hm.form; k u (e ▸ F)
theorem Same.of {st : List Str} {u m₀ : Str → Option Value} : Same st (fun z => if st.contains z then u z else m₀ z) m₀ := fun z hz => by dsimp only; rw [hz]; rfl
theorem Same.put {st : List Str} {m m₀ : Str → Option Value} (h : Same st m m₀) (x : Str) (v : Option Value) (hx : st.contains x = true) : Same st (fun y => if y = x then v else m y) m₀ := fun z hz => by
  have : z ≠ x := by rintro rfl; rw [hx] at hz; cases hz
  dsimp only
  rw [if_neg this]; exact h z hz
theorem DatsH.two {h : Heap} {vs : List Value} {d e : Dat} (x : DatsH h vs [d, e]) : ∃ a b, vs = [a, b] ∧ DatH h a d ∧ DatH h b e := by
  cases vs with
  | nil => have := x.length; simp at this
  | cons a vs =>
    refine Mine.byv fun P_ kP_ => ?_
    obtain ⟨d', r, e1, ha, x⟩ := x.uncons
    refine kP_ ?_
    clear kP_ P_
    cases e1
    cases vs with
    | nil => have := x.length; simp at this
    | cons b vs =>
      refine Mine.byv fun P_ kP_ => ?_
      obtain ⟨d', r, e1, hb, x⟩ := x.uncons
      refine kP_ ?_
      clear kP_ P_
      cases e1
      cases vs with
      | nil => exact ⟨a, b, rfl, ha, hb⟩
      | cons c vs => have := x.length; simp at this
section
variable {prog : Program} {w : World} {s : Shared} {K : Frag} {h₀ : Heap} {mg mb : Str → Option Value} {p : Program} {loose : List Str} {dp un : Nat} {fr : Option (List Env)} {gd : Option (List Code)}
theorem enter0 {name qual : Str} {params : Arguments} {body : List Stmt} {scope : Scope} {dV kV doc pm cdv ct oc : Value} {an od : Option Addr} {osl : Array (Option Value)} {f : Addr} {args : Args} {R : Result → Shared → Prop}
    (own : List (Addr × Obj)) (binds : List (Str × Value))
    (X : K.In h₀) (T : TopRead p loose mg mb h₀) (H : Sub h₀ s.heap) (hown : ∀ q ∈ own, s.heap.get? q.1 = some q.2 ∧ h₀.get? q.1 = none)
    (ho : K.lookup f = some ⟨oc, od, .func (fnOf name qual params body scope dV kV doc pm an cdv ct), osl⟩) (hcd : codeIn K cdv qual = true) (hroom : dp < recursionLimit)
    (hbind : bindArgs (fnOf name qual params body scope dV kV doc pm an cdv ct) args = pure binds) (hloc : ∀ y ∈ binds, scope.names.lookup y.1 = some .local)
    (hcell : ∀ x ∈ scope.names, x.2 ≠ .cell) (hco : scope.isCoroutine = false) (hgen : scope.isGenerator = false) (hk : scope.kind = .function)
    (h : ∀ g L h₁ fr', Sub h₀ g → Sub g s.heap → Keeps (own.map (·.1)) s.heap g → Fr g L h₁ (fun y => binds.reverse.lookup y) → News g L h₁ own → K.In g → TopRead p loose mg mb g →
      wpAny (model prog w) (Ar (dp + 1) fr' gd (un + 3)) (execs body (envOf qual scope L f cdv)) (fun fl s' => R (.ok (.ret (match fl with | .ret v => v | _ => .none))) s') (fun _ _ => False) { s with heap := h₁, toks := s.toks + binds.length }) :
    codeAny (model prog w) (Ar dp fr gd un) (.call (.ref f) args) R s := by
  have X' := X.keeps fun b o e => H b o e
  refine codeAny_call_def (fd := fnOf name qual params body scope dV kV doc pm an cdv ct) (body := body) (binds := binds) hroom (X' _ _ ho) rfl (T.nolimit.keeps fun b o e => H b o e) (codeRec_of X' hcd) rfl (.of_eq hbind) hcell hloc (fun h₁ hns hk₁ => ?_) hco hgen hk
  have nm : ∀ b o, h₀.get? b = some o → b ∉ own.map (·.1) := fun b o e q => by
    obtain ⟨x, hx, rfl⟩ := List.mem_map.mp q
    rw [(hown x hx).2] at e; cases e
  have hg : Sub h₀ (hideAll s.heap (own.map (·.1))) := fun b o e => hideAll_get _ (H b o e) (nm b o e)
  refine wpAny_mono (h (hideAll s.heap (own.map (·.1))) s.heap.objs.size h₁ _ hg (fun b o e => of_hideAll _ e) (fun b o n e => hideAll_get _ e n) ⟨hns, fun b o e => hk₁ b o (of_hideAll _ e), Nat.le_of_eq (hideAll_size _ _)⟩
    (fun q hq => ⟨hk₁ _ _ (hown q hq).1, Nat.ne_of_lt (Heap.lt_size (hown q hq).1), hideAll_none _ (List.mem_map_of_mem hq)⟩) (X.keeps fun b o e => hg b o e) (T.keeps fun b o e => hg b o e)) (fun _ _ x => x) fun _ _ x => x.elim
theorem enter {name qual : Str} {params : Arguments} {body : List Stmt} {scope : Scope} {dV kV doc pm cdv ct oc : Value} {an od : Option Addr} {osl : Array (Option Value)} {f : Addr} {args : Args} {R : Result → Shared → Prop}
    (own : List (Addr × Obj)) (binds : List (Str × Value))
    (X : K.In h₀) (T : TopRead p loose mg mb h₀) (H : Sub h₀ s.heap) (hown : ∀ q ∈ own, s.heap.get? q.1 = some q.2 ∧ h₀.get? q.1 = none)
    (ho : K.lookup f = some ⟨oc, od, .func (fnOf name qual params body scope dV kV doc pm an cdv ct), osl⟩) (hcd : codeIn K cdv qual = true) (hroom : dp < recursionLimit)
    (hbind : bindArgs (fnOf name qual params body scope dV kV doc pm an cdv ct) args = pure binds) (hloc : ∀ y ∈ binds, scope.names.lookup y.1 = some .local)
    (hcell : ∀ x ∈ scope.names, x.2 ≠ .cell) (hco : scope.isCoroutine = false) (hgen : scope.isGenerator = false) (hk : scope.kind = .function)
    (h : ∀ g L h₁ fr', let A' : Around := Ar (dp + 1) fr' gd (un + 3); let e_ : Env := envOf qual scope L f cdv; let s1 : Shared := { s with heap := h₁, toks := s.toks + binds.length }; let m0 : Str → Option Value := fun y => binds.reverse.lookup y; Sub h₀ g → Sub g s.heap → Keeps (own.map (·.1)) s.heap g → Fr g L h₁ m0 → News g L h₁ own → K.In g → TopRead p loose mg mb g →
      wpAny (model prog w) A' (execs body e_) (fun fl s' => R (.ok (.ret (match fl with | .ret v => v | _ => .none))) s') (fun _ _ => False) s1) :
    codeAny (model prog w) (Ar dp fr gd un) (.call (.ref f) args) R s :=
  enter0 own binds X T H hown ho hcd hroom hbind hloc hcell hco hgen hk h
/-- the frame's end: what a call keeps -/
theorem leave {own : List (Addr × Obj)} {h g h' : Heap} {L : Addr} {m : Str → Option Value} (k : Keeps (own.map (·.1)) h g) (F : Fr g L h' m) : Keeps (own.map (·.1)) h h' := fun b o n e => F.keep b o (k b o n e)
end
section
variable {prog : Program} {w : World} {A : Around} {s : Shared} {env : Env} {Q : Flow → Shared → Prop}
/-- how a turn's end stands: the iterator as it was, the word at the next number -/
inductive TurnEndS (g : Heap) (L I : Addr) (oI : Obj) (J : (Str → Option Value) → List (Addr × Obj) → Prop) (gens : Array GenState) (drawn : Drawn) (os : OsState) (s₃ : Shared) : Prop
  | mk (h' : Heap) (tk' : Nat) (m' : Str → Option Value) (own' : List (Addr × Obj)) (e : s₃ = ⟨h', gens, drawn, tk', os⟩) (F : Fr g L h' m') (N : News g L h' ((I, oI) :: own')) (hno : ∀ q ∈ own', q.1 ≠ I) (hJ : J m' own')
noncomputable def TurnEnd (g : Heap) (L I : Addr) (oI : Obj) (J : (Str → Option Value) → List (Addr × Obj) → Prop) (s₁ s₃ : Shared) : Prop := TurnEndS g L I oI J s₁.gens s₁.drawn s₁.os s₃
noncomputable def Turn (g : Heap) (L I : Addr) (oI : Obj) (J : (Str → Option Value) → List (Addr × Obj) → Prop) (s₁ : Shared) (Q : Flow → Shared → Prop) (f : Flow) (s₃ : Shared) : Prop :=
  match f with
  | .next => TurnEnd g L I oI J s₁ s₃
  | .cont => TurnEnd g L I oI J s₁ s₃
  | .brk => Q .next s₃
  | .ret v => Q (.ret v) s₃
/-- a loop is walked: J i m own says what holds ahead of turn i (own: the ledger without the iterator) -/
theorem loop_walk {target : Expr} {body : List Stmt} {I : Addr} {fp : List Addr} {n : Nat} {P : Nat → Value → Prop} {St : Nat → Heap → Prop} {g : Heap} {m : Str → Option Value} {own : List (Addr × Obj)}
    (W : Walks prog w A I fp [I] n P St) (hst : St 0 s.heap) (F : Fr g env.locals s.heap m) (N : News g env.locals s.heap own) (hIg : g.get? I = none) (hIL : I ≠ env.locals) (hIo : ∀ q ∈ own, q.1 ≠ I)
    (J : Nat → (Str → Option Value) → List (Addr × Obj) → Prop) (hJ : J 0 m own)
    (cl : ∀ i h, i ≤ n → St i h → ∃ o, h.get? I = some o ∧ (o.cls = .type "tuple_iterator" ∨ o.cls = .type "list_iterator" ∨ o.cls = .type "range_iterator"))
    (rest : ∀ b ∈ fp, b ≠ I → (∃ o, g.get? b = some o) ∨ ∃ o, ∀ i m own, J i m own → (b, o) ∈ own)
    (ht : ∀ (v : Value) (s : Shared) (o : Obj) (Q : Unit → Shared → Prop) (E : Value → Shared → Prop), s.heap.get? I = some o → (o.cls = .type "tuple_iterator" ∨ o.cls = .type "list_iterator" ∨ o.cls = .type "range_iterator") → Q () s → wpAny (model prog w) A (letOwnedTupleGo target (.ref I) v) Q E s)
    (turn : ∀ i v m own oI h tk, i < n → P i v → J i m own → Fr g env.locals h m → News g env.locals h ((I, oI) :: own) → (∀ q ∈ own, q.1 ≠ I) → (oI.cls = .type "tuple_iterator" ∨ oI.cls = .type "list_iterator" ∨ oI.cls = .type "range_iterator") →
      wpAny (model prog w) A (assign target env v) (fun _ s₂ => wpAny (model prog w) A (execs body env) (Turn g env.locals I oI (J (i + 1)) s Q) (fun _ _ => False) s₂) (fun _ _ => False) { s with heap := h, toks := tk })
    (done : ∀ m own h tk, J n m own → Fr g env.locals h m → News g env.locals h own → Q .next { s with heap := h, toks := tk }) :
    codeAny (model prog w) A (.forLoop target (.ref I) body [] env) (fun r s' => match r with | .ok f => Q f s' | .error e => cameBackBy (model prog w) A env (fun _ _ => False) e s') s := by
  have hE : PassesOwn (model prog w) A env (fun _ _ => False) := PassesOwn.never
  refine codeAny_forLoop_any (fun k s' => ∃ h tk m own i, s' = { s with heap := h, toks := tk } ∧ St i h ∧ Fr g env.locals h m ∧ News g env.locals h own ∧ (∀ q ∈ own, q.1 ≠ I) ∧ J i m own ∧ i ≤ n ∧ k = n + 1 - i) ?_ (n + 1)
    ⟨s.heap, s.toks, m, own, 0, rfl, hst, F, N, hIo, hJ, Nat.zero_le _, rfl⟩
  intro k s' hp2_
  refine Mine.byv fun P_ kP_ => ?_
  obtain ⟨h, tk, m, own, i, rfl, hst, F, N, hIo, hJ, hi, rfl⟩ := hp2_
  refine kP_ ?_
  clear kP_ P_
  have next : ∀ h₁ : Heap, (∀ b o, b ∉ [I] → h.get? b = some o → h₁.get? b = some o) → Fr g env.locals h₁ m ∧ News g env.locals h₁ own := fun h₁ hk => by
    refine ⟨?_, fun q hq => ⟨hk _ _ (by first | exact Mine.nin1 (hIo q hq) | exact Mine.all1 (hIo q hq) | simpa using hIo q hq) (N q hq).1, (N q hq).2⟩⟩
    refine Mine.byv fun P_ kP_ => ?_
    obtain ⟨oL, a1, a2, hL, a3⟩ := F.ns
    refine kP_ ?_
    clear kP_ P_
    exact ⟨⟨oL, a1, a2, hk _ _ (by first | exact Mine.nin1 (Ne.symm hIL) | exact Mine.all1 (Ne.symm hIL) | simpa using Ne.symm hIL) hL, a3⟩, fun b o e => hk b o (by simp; rintro rfl; rw [hIg] at e; cases e) (F.keep b o e), F.above⟩
  by_cases hlt : i < n
  · refine W.item i _ _ _ hlt hst fun v h₁ tk₁ hP hst₁ hk₁ => ?_
    refine Mine.byv fun P_ kP_ => ?_
    obtain ⟨F₁, N₁⟩ := next h₁ hk₁
    obtain ⟨oI, hoI, hcl⟩ := cl (i + 1) h₁ hlt hst₁
    refine kP_ ?_
    clear kP_ P_
    refine ht v _ oI _ _ hoI hcl ?_
    have N₂ : News g env.locals h₁ ((I, oI) :: own) := fun q hq => by
      rcases Mine.mem_sym hq with rfl | hq
      · exact ⟨hoI, hIL, hIg⟩
      · exact N₁ q hq
    refine wpAny_mono (turn i v m own oI h₁ tk₁ hlt hP hJ F₁ N₂ hIo hcl) (fun _ s₂ h₂ => wpAny_mono h₂ (fun f s₃ h₃ => ?_) fun _ _ e => e.elim) fun _ _ e => e.elim
    have fin : TurnEnd g env.locals I oI (J (i + 1)) s s₃ → ∃ k', k' < n + 1 - i ∧ ∃ h tk m own j, s₃ = { s with heap := h, toks := tk } ∧ St j h ∧ Fr g env.locals h m ∧ News g env.locals h own ∧ (∀ q ∈ own, q.1 ≠ I) ∧ J j m own ∧ j ≤ n ∧ k' = n + 1 - j := by
      intro hp0_
      refine Mine.byv fun P_ kP_ => ?_
      obtain ⟨h', tk', m', own', rfl, F', N', hIo', hJ'⟩ := hp0_
      refine kP_ ?_
      clear kP_ P_
      refine ⟨n + 1 - (i + 1), by (first | exact ar319 hi | lia), h', tk', m', own', i + 1, rfl, ?_, F', fun q hq => N' q (.tail _ hq), hIo', hJ', hlt, rfl⟩
      refine W.frame _ _ _ hst₁ fun b hb o e => ?_
      by_cases hbI : b = I
      · subst hbI
        rw [hoI] at e; cases e
        exact (N' _ (.head _)).1
      · rcases rest b hb hbI with ⟨o', e'⟩ | ⟨o', e'⟩
        · have := F₁.keep _ _ e'
          rw [e] at this; cases this
          exact F'.keep _ _ e'
        · have a1 := (N₁ _ (e' _ _ _ hJ)).1
          rw [e] at a1; cases a1
          exact (N' _ (.tail _ (e' _ _ _ hJ'))).1
    cases f with
    | next => exact fin h₃
    | cont => exact fin h₃
    | brk => exact h₃
    | ret v => exact h₃
  · have hin : i = n := by (first | exact ar322 hi hlt | lia)
    subst hin
    refine W.done _ _ _ hst fun h₁ tk₁ hk₁ => wpAny_execs_nil ?_
    obtain ⟨F₁, N₁⟩ := next h₁ hk₁
    exact done m own h₁ tk₁ hJ F₁ N₁
/-- what a for's head is to hand on: its value is a list or a tuple -/
inductive SeqLoop (prog : Program) (w : World) (A : Around) (env : Env) (target : Expr) (body : List Stmt) (Q : Flow → Shared → Prop) (xv : Value) (s : Shared) : Prop
  | mk (a : Addr) (vs : List Value) (o : Obj) (n : Nat) (g : Heap) (m : Str → Option Value) (own : List (Addr × Obj)) (J : Nat → (Str → Option Value) → List (Addr × Obj) → Prop)
    (e : xv = .ref a) (ho : s.heap.get? a = some o) (hc : o.cls = .type "tuple" ∨ o.cls = .type "list") (hd : o.data = .seq vs.toArray n) (F : Fr g env.locals s.heap m) (N : News g env.locals s.heap own) (hJ : J 0 m own)
    (hst : g.get? a = some o ∨ ∀ i m own, J i m own → (a, o) ∈ own)
    (turn : ∀ i v m own I oI h tk, vs[i]? = some v → J i m own → Fr g env.locals h m → News g env.locals h ((I, oI) :: own) → (∀ q ∈ own, q.1 ≠ I) → (oI.cls = .type "tuple_iterator" ∨ oI.cls = .type "list_iterator" ∨ oI.cls = .type "range_iterator") →
      wpAny (model prog w) A (assign target env v) (fun _ s₂ => wpAny (model prog w) A (execs body env) (Turn g env.locals I oI (J (i + 1)) s Q) (fun _ _ => False) s₂) (fun _ _ => False) { s with heap := h, toks := tk })
    (done : ∀ m own h tk, J vs.length m own → Fr g env.locals h m → News g env.locals h own → Q .next { s with heap := h, toks := tk })
theorem go_ok {target : Expr} (hT : (∀ v I, letOwnedTupleGo target (.ref I) v = pure ()) ∨ ∃ es k p, target = .Tuple es k p) (I : Addr) (v : Value) (s : Shared) (o : Obj) (Q : Unit → Shared → Prop) (E : Value → Shared → Prop)
    (ho : s.heap.get? I = some o) (hc : o.cls = .type "tuple_iterator" ∨ o.cls = .type "list_iterator" ∨ o.cls = .type "range_iterator") (h : Q () s) : wpAny (model prog w) A (letOwnedTupleGo target (.ref I) v) Q E s := by
  rcases hT with hT | ⟨es, k, p, rfl⟩
  · rw [hT]; exact wpAny_pure h
  · cases v with
    | ref a =>
      unfold letOwnedTupleGo
      refine wpAny_bind (wpAny_load ho ?_)
      have no : ∀ (n : String) (vs : Array Value), n = "tuple_iterator" ∨ n = "list_iterator" ∨ n = "range_iterator" → (["enumerate", "zip", "dict_itemiterator", "dict_reverseitemiterator", "odict_iterator", "itertools.zip_longest", "itertools.pairwise"].contains n && vs[0]? == some (rawInt a)) = false := by
        rintro n vs (rfl | rfl | rfl)
        · rw [show (["enumerate", "zip", "dict_itemiterator", "dict_reverseitemiterator", "odict_iterator", "itertools.zip_longest", "itertools.pairwise"].contains "tuple_iterator") = false from by decide, Bool.false_and]
        · rw [show (["enumerate", "zip", "dict_itemiterator", "dict_reverseitemiterator", "odict_iterator", "itertools.zip_longest", "itertools.pairwise"].contains "list_iterator") = false from by decide, Bool.false_and]
        · rw [show (["enumerate", "zip", "dict_itemiterator", "dict_reverseitemiterator", "odict_iterator", "itertools.zip_longest", "itertools.pairwise"].contains "range_iterator") = false from by decide, Bool.false_and]
      refine Mine.byv fun P_ kP_ => ?_
      obtain ⟨c, d, dt, sl⟩ := o
      refine kP_ ?_
      clear kP_ P_
      dsimp only at hc ⊢
      rcases hc with rfl | rfl | rfl <;> cases dt <;> first | exact wpAny_pure h | (dsimp only; rw [if_neg (by rw [no _ _ (by first | exact nin_nil | exact all_nil | ((repeat (first | exact .head _ | refine .tail _ ?_)); done) | simp)]; exact Bool.false_ne_true)]; exact wpAny_pure h)
    | _ => exact wpAny_pure h
theorem seq_core {target : Expr} {body : List Stmt} (hh : A.handled = none) (hT : (∀ v I, letOwnedTupleGo target (.ref I) v = pure ()) ∨ ∃ es k p, target = .Tuple es k p) {xv : Value} {s₁ : Shared} (h₁ : SeqLoop prog w A env target body Q xv s₁) :
    wpAny (model prog w) A (pyIter xv) (fun it s₂ => codeAny (model prog w) A (.forLoop target it body [] env) (fun r s' => match r with | .ok f => Q f s' | .error e => cameBackBy (model prog w) A env (fun _ _ => False) e s') s₂) (fun _ _ => False) s₁ := by
  refine Mine.byv fun P_ kP_ => ?_
  obtain ⟨a, vs, o, n, g, m, own, J, rfl, ho, hc, hd, F, N, hJ, hst, turn, done⟩ := h₁
  refine kP_ ?_
  clear kP_ P_
  have hlt := Heap.lt_size ho
  have hne : a ≠ s₁.heap.objs.size := Nat.ne_of_lt hlt
  have hIg : g.get? s₁.heap.objs.size = none := next_is_new F
  have hIL : s₁.heap.objs.size ≠ env.locals := fun e => absurd F.ns.lt (by rw [← e]; exact Nat.lt_irrefl _)
  have hIo : ∀ q ∈ own, q.1 ≠ s₁.heap.objs.size := fun q hq => Nat.ne_of_lt (Heap.lt_size (N q hq).1)
  have hlen : vs.toArray.size = vs.length := by simp
  have rst : ∀ b ∈ [s₁.heap.objs.size, a], b ≠ s₁.heap.objs.size → (∃ o, g.get? b = some o) ∨ ∃ o, ∀ i m own, J i m own → (b, o) ∈ own := by
    intro b hb hn
    have : b = a := by simpa [hn] using hb
    subst this
    exact hst.imp (fun e => ⟨_, e⟩) fun e => ⟨_, e⟩
  rcases hc with hc | hc
  · have hs : s₁.heap.IsTuple a vs.toArray := ⟨o, ho, hc, n, hd⟩
    refine wpAny_pyIter_tuple hs ?_
    have W := Walks.tuple (prog := prog) (w := w) hh s₁.heap.objs.size a hne vs.toArray
    rw [hlen] at W
    refine loop_walk W ⟨⟨_, Heap.get?_push_size _ rfl, rfl, rfl⟩, hs.push _⟩ (F.push _) (fun q hq => ⟨Heap.get?_push_of_some _ (N q hq).1, (N q hq).2⟩) hIg hIL hIo J hJ
      (fun i h _ x => let ⟨o, a, b, _⟩ := x.1; ⟨o, a, .inl b⟩) rst (fun v s o Q E a b c => go_ok hT _ _ _ _ _ _ a b c) ?_ ?_
    · intro i v m own oI h tk _ hP hJ F N q c
      exact turn i v m own _ oI h tk (by first | exact Mine.nin1 (hP) | exact Mine.all1 (hP) | simpa using hP) hJ F N q c
    · exact done
  · have hs : s₁.heap.IsList a vs.toArray := ⟨o, ho, hc, n, hd⟩
    refine wpAny_pyIter_list hs ?_
    have W := Walks.list (prog := prog) (w := w) hh s₁.heap.objs.size a hne vs.toArray
    rw [hlen] at W
    refine loop_walk W ⟨⟨_, Heap.get?_push_size _ rfl, rfl, rfl⟩, hs.at fun o e => Heap.get?_push_of_some _ e⟩ (F.push _) (fun q hq => ⟨Heap.get?_push_of_some _ (N q hq).1, (N q hq).2⟩) hIg hIL hIo J hJ
      (fun i h _ x => let ⟨o, a, b, _⟩ := x.1; ⟨o, a, .inr (.inl b)⟩) rst (fun v s o Q E a b c => go_ok hT _ _ _ _ _ _ a b c) ?_ ?_
    · intro i v m own oI h tk _ hP hJ F N q c
      exact turn i v m own _ oI h tk (by first | exact Mine.nin1 (hP) | exact Mine.all1 (hP) | simpa using hP) hJ F N q c
    · exact done
theorem for_seq {target iter : Expr} {body : List Stmt} {pos : Pos} (hh : A.handled = none)
    (h : wpAny (model prog w) A (eval iter env) (fun xv s₁ => SeqLoop prog w A env target body Q xv s₁) (fun _ _ => False) s)
    (hT : (∀ v I, letOwnedTupleGo target (.ref I) v = pure ()) ∨ ∃ es k p, target = .Tuple es k p)
    (hs : ∀ x, foldedSetIterable iter env x = pure x := by intro _; rfl) :
    wpAny (model prog w) A (exec (.For target iter body [] pos) env) Q (fun _ _ => False) s :=
  wpAny_For (wpAny_mono h (fun _ _ h₁ => seq_core hh hT h₁) fun _ _ e => e) hs
theorem for_seqL {target iter : Expr} {body : List Stmt} {pos : Pos} (hh : A.handled = none)
    (h : wpAny (model prog w) A (eval iter env) (fun xv s₁ => SeqLoop prog w A env target body Q xv s₁) (fun _ _ => False) s)
    (hT : ∀ v I, letOwnedTupleGo target (.ref I) v = pure () := by exact fun _ _ => rfl) (hs : ∀ x, foldedSetIterable iter env x = pure x := by exact fun _ => rfl) :
    wpAny (model prog w) A (exec (.For target iter body [] pos) env) Q (fun _ _ => False) s := for_seq hh h (.inl hT) hs
theorem for_seqR {es : List Expr} {k : Nat} {p : Pos} {iter : Expr} {body : List Stmt} {pos : Pos} (hh : A.handled = none)
    (h : wpAny (model prog w) A (eval iter env) (fun xv s₁ => SeqLoop prog w A env (.Tuple es k p) body Q xv s₁) (fun _ _ => False) s)
    (hs : ∀ x, foldedSetIterable iter env x = pure x := by exact fun _ => rfl) :
    wpAny (model prog w) A (exec (.For (.Tuple es k p) iter body [] pos) env) Q (fun _ _ => False) s := for_seq hh h (.inr ⟨_, _, _, rfl⟩) hs
end
section
variable {prog : Program} {w : World} {A : Around} {s : Shared} {env : Env} {Q : Unit → Shared → Prop} {g : Heap} {L : Addr} {m : Str → Option Value} {own : List (Addr × Obj)}
theorem assign_tuple {elts : List Expr} {x1} {pos : Pos} {t : Addr} {vs : List Value} {n : Nat} (hh : A.handled = none) (F : Fr g L s.heap m) (N : News g L s.heap own) (ht : s.heap.get? t = some (tupObj vs n))
    (hn : (assignEach elts env).length = vs.length) (hstar : (assignEach elts env).findIdx? (·.1) = none)
    (h : ∀ h', Fr g L h' m → News g L h' own → wpAny (model prog w) A (assignInOrder ((assignEach elts env).map (·.2)) vs) Q (fun _ _ => False) { s with heap := h' }) :
    wpAny (model prog w) A (assign (.Tuple elts x1 pos) env (.ref t)) Q (fun _ _ => False) s := by
  refine wpAny_assign_Tuple (items := vs.toArray) hh ⟨_, ht, rfl, n, rfl⟩ (by first | exact Mine.nin1 (hn) | exact Mine.all1 (hn) | simpa using hn) hstar fun h' k => ?_
  have k' : Sub s.heap h' := fun b o e => k b o (Nat.ne_of_lt (Heap.lt_size e)) e
  exact h h' (Fr.use F (k'.keeps []) (by first | exact nin_nil | exact all_nil | ((repeat (first | exact .head _ | refine .tail _ ?_)); done) | simp) (by first | exact nin_nil | exact all_nil | ((repeat (first | exact .head _ | refine .tail _ ?_)); done) | simp)) (News.use N (k'.keeps []) (by first | exact nin_nil | exact all_nil | ((repeat (first | exact .head _ | refine .tail _ ?_)); done) | simp))
end
noncomputable def pairD (x : Int × Int) : Dat := .tuple [.int x.1, .int x.2]
noncomputable def clk (c : List (Int × Int)) : Dat := .tuple (c.map pairD)
noncomputable def cnt (c : List (Int × Int)) (g : Int) : Int := match c with
  | [] => 0
  | x :: r => if x.1 = g then x.2 else cnt r g
theorem cnt_append_no {a b : List (Int × Int)} {g : Int} (h : ∀ x ∈ a, x.1 ≠ g) : cnt (a ++ b) g = cnt b g := by
  induction a with
  | nil => rfl
  | cons x r ih =>
    rw [List.cons_append, cnt, if_neg (h x (.head _))]
    exact ih fun y hy => h y (.tail _ hy)
/-- a pair read out of a clock's items -/
theorem pair_at {h : Heap} {vs : List Value} {c : List (Int × Int)} (x : DatsH h vs (c.map pairD)) {i : Nat} {v : Value} (e : vs[i]? = some v) :
    ∃ q, c[i]? = some q ∧ ∃ a n t u, v = .ref a ∧ h.get? a = some (tupObj [.int q.1 t, .int q.2 u] n) := by
  have hl := x.length
  rw [List.length_map] at hl
  have hi : i < vs.length := (List.getElem?_eq_some_iff.mp e).1
  have hi' : i < c.length := by (first | exact ar106 hl hi | lia)
  refine ⟨c[i], by simp [hi'], ?_⟩
  obtain ⟨v', e', d⟩ := x.get (k := i) (by first | exact Mine.nin1 (hi') | exact Mine.all1 (hi') | simpa using hi')
  rw [e] at e'; cases e'
  rw [List.getElem_map] at d
  refine Mine.byv fun P_ kP_ => ?_
  obtain ⟨a, ws, n, rfl, ha, hw⟩ := d.untuple
  obtain ⟨v1, v2, rfl, h1, h2⟩ := hw.two
  obtain ⟨t, rfl⟩ := h1.unint
  obtain ⟨u, rfl⟩ := h2.unint
  refine kP_ ?_
  clear kP_ P_
  exact ⟨a, n, t, u, rfl, ha⟩
section
variable {p : Program} {loose : List Str} {mg mb : Str → Option Value} {w : World} {dp un : Nat} {fr : Option (List Env)} {gd : Option (List Code)} {h₀ : Heap} {s : Shared} {Q : Value → Shared → Prop}
theorem count_call (X : (hd.heap_1 w.params).In h₀) (T : TopRead p loose mg mb h₀) (H : Sub h₀ s.heap) (hdp : dp + 1 < recursionLimit) (hun : un + 20 < cLine)
  {v : Value} {c : List (Int × Int)} {x : Int} {t : Tok} (hc : DatH s.heap v (clk c))
  (ret : ∀ t h' tk', Sub s.heap h' → Q (.int (cnt c x) t) {s with heap := h', toks := tk'}) :
  wpAny (model PySem.Challenge.rw_on0014_01.prog w) (Ar dp fr gd un) (call (.ref 28) [v, .int x t]) Q (fun _ _ => False) s := by
  revert X; k_fill; intro X
  refine wpAny_call ?_
  k_dflt (refine' enter (f := 28) [] [("clock", v), ("goroutine", .int x t)] X T H ?o ?k1 ?k2 ?k3 ?k4 ?k5 ?k6 ?k7 ?k8 ?k9 ?_; (case o => first | exact Mine.all_nil | simp); (case k1 => k_is); (case k2 => k_is); (case k3 => (first | exact ar266 hdp | lia)); (case k4 => rfl); (case k5 => exact locs rfl); (case k6 => decide); (case k7 => rfl); (case k8 => rfl); (case k9 => rfl))
  intro g L h₁ fr' A' e_ s1_ m0 Hg Hs Hk F N X T
  have Hk' : Sub s.heap g := Hk.sub
  walk1
  refine for_seq rfl ?_ (.inr ⟨_, _, _, rfl⟩)
  walk1
  refine Mine.byv fun P_ kP_ => ?_
  obtain ⟨a, vs, n, rfl, ha, hd⟩ := hc.untuple
  refine kP_ ?_
  clear kP_ P_
  refine ⟨a, vs, _, n, g, _, _, fun i m own => (∀ y ∈ c.take i, y.1 ≠ x) ∧ own = [] ∧ Same ["number", "count"] m (fun y => List.lookup y [(Str.ofString "clock", Value.ref a), (Str.ofString "goroutine", Value.int x t)].reverse), rfl, F.keep _ _ (Hk' _ _ ha), .inl rfl, rfl, F, N, ⟨by simp, rfl, Same.refl _ _⟩, .inl (Hk' _ _ ha), ?turn, ?done⟩
  case turn =>
    intro i v m own I oI h tk hv hp9_ F N hI hcl
    obtain ⟨hno, rfl, hm⟩ := hp9_
    refine Same.elimF hm F ?_
    intro u mm_ F
    refine Mine.byv fun P_ kP_ => ?_
    obtain ⟨q, hq, b, n', t1, t2, rfl, hb⟩ := pair_at hd hv
    refine kP_ ?_
    clear kP_ P_
    refine assign_tuple rfl F N (F.keep _ _ (Hk' _ _ hb)) rfl rfl ?_
    intro h' F' N'
    k_steps
    · rename_i e
      have hx : cnt c x = q.2 := by
        rw [← List.take_append_drop i c, cnt_append_no hno, List.drop_eq_getElem_cons (List.getElem?_eq_some_iff.mp hq).1, cnt, if_pos (by rw [(List.getElem?_eq_some_iff.mp hq).2]; exact e), (List.getElem?_eq_some_iff.mp hq).2]
      show Q (.int q.2 t2) _
      rw [← hx]
      exact ret _ _ _ (Hk'.trans (Fr.toSub (by assumption)))
    · rename_i e
      refine ⟨_, _, _, [], rfl, by assumption, by assumption, by simp, ?_, rfl, ?_⟩
      · intro y hy
        rw [List.take_add_one, hq] at hy
        rcases List.mem_append.mp hy with hy | hy
        · exact hno y hy
        · have : y = q := by simpa using hy
          rw [this]; exact e
      · exact (Same.of.put _ _ rfl).put _ _ rfl
  case done =>
    intro m own h tk hp4_ F N
    obtain ⟨hno, rfl, hm⟩ := hp4_
    refine Same.elimF hm F ?_
    intro u mm_ F
    k_steps
    have hl : vs.length = c.length := by simpa using hd.length
    rw [hl, List.take_length] at hno
    have hx : cnt c x = 0 := by
      have := cnt_append_no (a := c) (b := []) hno
      rwa [List.append_nil] at this
    show Q (.int 0 _) _
    rw [← hx]
    exact ret _ _ _ (Hk'.trans (Fr.toSub (by assumption)))
end
open Classical in
/-- the heap h, but only where P holds -/
noncomputable def restr (h : Heap) (P : Addr → Prop) : Heap := hideAll h ((List.range h.objs.size).filter fun b => decide (¬ P b))
theorem restr_get {h : Heap} {P : Addr → Prop} {b : Addr} {o : Obj} (e : h.get? b = some o) (p : P b) : (restr h P).get? b = some o :=
  hideAll_get _ e (by first | ((repeat' (first | exact nin_nil | exact all_nil | (refine nin_cons ?_ ?_) | (refine all_cons ?_ ?_) | assumption | exact Ne.symm (by assumption))); done) | simp [p])
theorem of_restr {h : Heap} {P : Addr → Prop} {b : Addr} {o : Obj} (e : (restr h P).get? b = some o) : h.get? b = some o ∧ P b := by
  have e' := of_hideAll _ e
  refine ⟨e', Classical.byContradiction fun n => ?_⟩
  have : (restr h P).get? b = none := hideAll_none _ (by first | ((repeat' (first | exact nin_nil | exact all_nil | (refine nin_cons ?_ ?_) | (refine all_cons ?_ ?_) | assumption | exact Ne.symm (by assumption))); done) | simp [n, Heap.lt_size e'])
  rw [this] at e; cases e
/-- what a call leaves behind: v (of the heap s) has become v' (of the heap h'), only fp is touched, what is new was nowhere -/
structure Post (s v v' h' : Heap) (fp : List Addr) : Prop where
  keeps : Keeps fp v v'
  sub : Sub v' h'
  heap : Keeps fp s h'
  fresh : ∀ b o, v'.get? b = some o → (∃ o', v.get? b = some o') ∨ s.get? b = none ∨ IsTupO o
/-- a frame at work: it began on the heap s0 with the view v0, may touch fp, its base is g, its names stand at L; now its view is v -/
structure Ctx (h₀ s0 v0 : Heap) (fp : List Addr) (g : Heap) (L : Addr) (own : List (Addr × Obj)) (v : Heap) : Prop where
  hk : Keeps fp s0 g
  hs : Sub g s0
  offg : ∀ a ∈ fp, g.get? a = none
  fpin : ∀ a ∈ fp, ∃ o, v0.get? a = some o
  v0s : Sub v0 s0
  keeps : Keeps fp v0 v
  fresh : ∀ b o, v.get? b = some o → (∃ o', v0.get? b = some o') ∨ s0.get? b = none ∨ IsTupO o
  H : Sub h₀ v
  Hg : Sub h₀ g
  look : ∀ b o, v.get? b = some o → b ≠ L ∧ (g.get? b = some o ∨ (b, o) ∈ own)
  ownv : ∀ p ∈ own, v.get? p.1 = some p.2
section
variable {h₀ s0 v0 g v h : Heap} {fp : List Addr} {L : Addr} {own news : List (Addr × Obj)} {m : Str → Option Value}
theorem Ctx.sub (Z : Ctx h₀ s0 v0 fp g L own v) (F : Fr g L h m) (N : News g L h news) (hs : ∀ p ∈ own, p ∈ news) : Sub v h := fun b o e => by
  rcases (Z.look b o e).2 with e' | e'
  · exact F.keep b o e'
  · exact (N _ (hs _ e')).1
theorem Ctx.grow (Z : Ctx h₀ s0 v0 fp g L own v) (F : Fr g L h m) (N : News g L h news) (hs : ∀ p ∈ own, p ∈ news) :
    ∃ vs, Ctx h₀ s0 v0 fp g L news vs ∧ Sub v vs ∧ Sub vs h ∧ ∀ p ∈ news, vs.get? p.1 = some p.2 := by
  have hv := Z.sub F N hs
  refine ⟨restr h fun b => (∃ o, v.get? b = some o) ∨ ∃ p ∈ news, p.1 = b, ⟨Z.hk, Z.hs, Z.offg, Z.fpin, Z.v0s, fun b o n e => ?_, fun b o e => ?_, fun b o e => ?_, Z.Hg, fun b o e => ?_, fun p hp => restr_get (N p hp).1 (.inr ⟨p, hp, rfl⟩)⟩, fun b o e => ?_, fun b o e => (of_restr e).1, fun p hp => ?_⟩
  · exact restr_get (hv _ _ (Z.keeps b o n e)) (.inl ⟨_, Z.keeps b o n e⟩)
  · obtain ⟨e, (⟨o', e'⟩ | ⟨p, hp, rfl⟩)⟩ := of_restr e
    · have := hv _ _ e'
      rw [e] at this; cases this
      exact Z.fresh b _ e'
    · by_cases hf : p.1 ∈ fp
      · exact .inl (Z.fpin _ hf)
      · refine .inr (.inl ?_)
        cases q : s0.get? p.1 with
        | none => rfl
        | some o' =>
          have := Z.hk _ _ hf q
          rw [(N p hp).2.2] at this; cases this
  · exact restr_get (hv _ _ (Z.H b o e)) (.inl ⟨_, Z.H b o e⟩)
  · obtain ⟨e, (⟨o', e'⟩ | ⟨p, hp, rfl⟩)⟩ := of_restr e
    · have := hv _ _ e'
      rw [e] at this; cases this
      exact ⟨(Z.look b o e').1, (Z.look b o e').2.imp_right (hs _)⟩
    · have := (N p hp).1
      rw [e] at this; cases this
      exact ⟨(N p hp).2.1, .inr hp⟩
  · exact restr_get (hv _ _ e) (.inl ⟨_, e⟩)
  · exact restr_get (N p hp).1 (.inr ⟨p, hp, rfl⟩)
theorem Ctx.post (Z : Ctx h₀ s0 v0 fp g L own v) (F : Fr g L h m) (N : News g L h own) : Post s0 v0 v h fp :=
  ⟨Z.keeps, Z.sub F N fun _ h => h, fun b o n e => F.keep b o (Z.hk b o n e), Z.fresh⟩
open Classical in
theorem Ctx.back {vs v' h' : Heap} {fp1 : List Addr} (Z : Ctx h₀ s0 v0 fp g L own vs) (F : Fr g L h m) (N : News g L h own) (P : Post h vs v' h' fp1)
    (hfp : ∀ a ∈ fp1, g.get? a = none) (al : ∀ a ∈ fp1, ∃ o, vs.get? a = some o) : ∃ own', Ctx h₀ s0 v0 fp g L own' v' ∧ Fr g L h' m ∧ News g L h' own' := by
  have hL : L ∉ fp1 := fun q => by
    obtain ⟨o, e⟩ := al L q
    exact (Z.look L o e).1 rfl
  have F' := Fr.use F P.heap hL hfp
  have nL : ∀ o, v'.get? L ≠ some o := fun o e => by
    rcases P.fresh L o e with ⟨o', e'⟩ | e' | ⟨_, xs, n, e'⟩
    · exact (Z.look L o' e').1 rfl
    · obtain ⟨oL, _, _, ho, _⟩ := F.ns
      rw [ho] at e'; cases e'
    · obtain ⟨oL, es, ep, ho, hd, _⟩ := F'.ns
      rw [P.sub _ _ e] at ho; cases ho
      rw [hd] at e'; cases e'
  refine ⟨((List.range v'.objs.size).filterMap fun b => if g.get? b = none then (v'.get? b).map fun o => (b, o) else none), ⟨Z.hk, Z.hs, Z.offg, Z.fpin, Z.v0s, fun b o n e => ?_, fun b o e => ?_, fun b o e => ?_, Z.Hg, fun b o e => ?_, fun p hp => ?_⟩, F', fun p hp => ?_⟩
  · have e1 := Z.keeps b o n e
    refine P.keeps b o (fun q => ?_) e1
    have := Z.hk b o n (Z.v0s b o e)
    rw [hfp b q] at this; cases this
  · rcases P.fresh b o e with ⟨o', e'⟩ | e' | e'
    · rcases Z.fresh b o' e' with q | q | q
      · exact .inl q
      · exact .inr (.inl q)
      · by_cases hb : b ∈ fp1
        · cases q1 : s0.get? b with
          | none => exact .inr (.inl rfl)
          | some o1 =>
            by_cases hf : b ∈ fp
            · exact .inl (Z.fpin b hf)
            · have := Z.hk _ _ hf q1
              rw [hfp b hb] at this; cases this
        · have := P.keeps b o' hb e'
          rw [e] at this; cases this
          exact .inr (.inr q)
    rotate_left
    · exact .inr (.inr e')
    · by_cases hf : b ∈ fp
      · exact .inl (Z.fpin b hf)
      · refine .inr (.inl ?_)
        cases q : s0.get? b with
        | none => rfl
        | some o' =>
          have := F.keep _ _ (Z.hk _ _ hf q)
          rw [e'] at this; cases this
  · refine P.keeps b o (fun q => ?_) (Z.H b o e)
    have := Z.Hg b o e
    rw [hfp b q] at this; cases this
  · refine ⟨fun q => nL o (q ▸ e), ?_⟩
    cases q : g.get? b with
    | none =>
      refine .inr (List.mem_filterMap.mpr ⟨b, by simpa using Heap.lt_size e, ?_⟩)
      rw [if_pos q, e]; rfl
    | some o' =>
      have := F'.keep _ _ q
      rw [P.sub b o e] at this; cases this
      exact .inl rfl
  · obtain ⟨b, _, e⟩ := List.mem_filterMap.mp hp
    by_cases q : g.get? b = none
    · rw [if_pos q] at e
      obtain ⟨o, e1, rfl⟩ := Option.map_eq_some_iff.mp e
      exact e1
    · rw [if_neg q] at e; cases e
  · obtain ⟨b, _, e⟩ := List.mem_filterMap.mp hp
    by_cases q : g.get? b = none
    · rw [if_pos q] at e
      obtain ⟨o, e1, rfl⟩ := Option.map_eq_some_iff.mp e
      exact ⟨P.sub b o e1, fun r => nL o (by have r' : b = L := r; rw [r'] at e1; exact e1), q⟩
    · rw [if_neg q] at e; cases e
/-- a call that touches nothing: all tuples that stand now may be looked at, and all that is new -/
theorem Ctx.pure {vs h' : Heap} (Z : Ctx h₀ s0 v0 fp g L own vs) (F : Fr g L h m) (N : News g L h own) (k : Sub h h') :
    ∃ v' own', Ctx h₀ s0 v0 fp g L own' v' ∧ Fr g L h' m ∧ News g L h' own' ∧ Sub vs v' ∧ Sub v' h' ∧ (∀ r d, DatH h' r d → DatH v' r d) ∧ ∀ b o, h'.get? b = some o → h.get? b = none → v'.get? b = some o := by
  have hv := Z.sub F N fun _ h => h
  have P : Post h vs (restr h' fun b => (∃ o, vs.get? b = some o) ∨ h.get? b = none ∨ ∃ o, h'.get? b = some o ∧ IsTupO o) h' [] :=
    ⟨fun b o _ e => restr_get (k _ _ (hv _ _ e)) (.inl ⟨o, e⟩), fun b o e => (of_restr e).1, k.keeps _, fun b o e => by
      obtain ⟨e1, (q | q | ⟨o', q1, q2⟩)⟩ := of_restr e
      · exact .inl q
      · exact .inr (.inl q)
      · rw [e1] at q1; cases q1
        exact .inr (.inr q2)⟩
  refine Mine.byv fun P_ kP_ => ?_
  obtain ⟨own', Z', F', N'⟩ := Z.back F N P (by first | exact nin_nil | exact all_nil | ((repeat (first | exact .head _ | refine .tail _ ?_)); done) | simp) (by first | exact nin_nil | exact all_nil | ((repeat (first | exact .head _ | refine .tail _ ?_)); done) | simp)
  refine kP_ ?_
  clear kP_ P_
  exact ⟨_, own', Z', F', N', P.keeps.sub, P.sub, fun r d ⟨l, a, b⟩ => ⟨l, fun p hp => ⟨restr_get (a p hp).1 (.inr (.inr ⟨_, (a p hp).1, (a p hp).2⟩)), (a p hp).2⟩, b⟩, fun b o e q => restr_get e (.inr (.inl q))⟩
/-- a step that touches one place alone -/
theorem Post.one {s v h' : Heap} {d : Addr} {o : Obj} (V : Sub v s) (hd : ∃ o', v.get? d = some o') (hk : Keeps [d] s h') (he : h'.get? d = some o) :
    ∃ v', Post s v v' h' [d] ∧ v'.get? d = some o := by
  refine ⟨restr h' fun b => ∃ o, v.get? b = some o, ⟨fun b o n e => restr_get (hk b o n (V b o e)) ⟨_, e⟩, fun b o e => (of_restr e).1, hk, fun b o e => .inl (of_restr e).2⟩, restr_get he hd⟩
theorem Post.same {s v h' : Heap} (V : Sub v s) (hk : Sub s h') : Post s v v h' [] :=
  ⟨fun _ _ _ e => e, fun b o e => hk b o (V b o e), hk.keeps _, fun _ _ e => .inl ⟨_, e⟩⟩
theorem Post.mono {s v v' h' : Heap} {fp fq : List Addr} (P : Post s v v' h' fp) (h : ∀ q ∈ fp, q ∈ fq) : Post s v v' h' fq :=
  ⟨P.keeps.mono h, P.sub, P.heap.mono h, P.fresh⟩
end
section
variable {prog : Program} {w : World} {s : Shared} {K : Frag} {h₀ v : Heap} {mg mb : Str → Option Value} {p : Program} {loose : List Str} {dp un : Nat} {fr : Option (List Env)} {gd : Option (List Code)}
open Classical in
/-- a def's body is opened over a view v of the heap: only fp may be touched -/
theorem into0 {name qual : Str} {params : Arguments} {body : List Stmt} {scope : Scope} {dV kV doc pm cdv ct oc : Value} {an od : Option Addr} {osl : Array (Option Value)} {f : Addr} {args : Args} {R : Result → Shared → Prop}
    (fp : List Addr) (binds : List (Str × Value))
    (X : K.In h₀) (T : TopRead p loose mg mb h₀) (H : Sub h₀ v) (V : Sub v s.heap) (hoff : ∀ a ∈ fp, h₀.get? a = none) (hin : ∀ a ∈ fp, ∃ o, v.get? a = some o)
    (ho : K.lookup f = some ⟨oc, od, .func (fnOf name qual params body scope dV kV doc pm an cdv ct), osl⟩) (hcd : codeIn K cdv qual = true) (hroom : dp < recursionLimit)
    (hbind : bindArgs (fnOf name qual params body scope dV kV doc pm an cdv ct) args = pure binds) (hloc : ∀ y ∈ binds, scope.names.lookup y.1 = some .local)
    (hcell : ∀ x ∈ scope.names, x.2 ≠ .cell) (hco : scope.isCoroutine = false) (hgen : scope.isGenerator = false) (hk : scope.kind = .function)
    (h : ∀ g L h₁ fr' own, Ctx h₀ s.heap v fp g L own v → Fr g L h₁ (fun y => binds.reverse.lookup y) → News g L h₁ own → K.In g → TopRead p loose mg mb g →
      wpAny (model prog w) (Ar (dp + 1) fr' gd (un + 3)) (execs body (envOf qual scope L f cdv)) (fun fl s' => R (.ok (.ret (match fl with | .ret v => v | _ => .none))) s') (fun _ _ => False) { s with heap := h₁, toks := s.toks + binds.length }) :
    codeAny (model prog w) (Ar dp fr gd un) (.call (.ref f) args) R s := by
  have hown : ∀ q ∈ fp.filterMap fun a => (v.get? a).map fun o => (a, o), s.heap.get? q.1 = some q.2 ∧ h₀.get? q.1 = none := fun q hq => by
    refine Mine.byv fun P_ kP_ => ?_
    obtain ⟨a, ha, e⟩ := List.mem_filterMap.mp hq
    obtain ⟨o, e1, rfl⟩ := Option.map_eq_some_iff.mp e
    refine kP_ ?_
    clear kP_ P_
    exact ⟨V _ _ e1, hoff a ha⟩
  have hfst : ∀ a, a ∈ (fp.filterMap fun a => (v.get? a).map fun o => (a, o)).map (·.1) ↔ a ∈ fp := fun a => by
    constructor
    · intro h
      refine Mine.byv fun P_ kP_ => ?_
      obtain ⟨q, hq, rfl⟩ := List.mem_map.mp h
      obtain ⟨a, ha, e⟩ := List.mem_filterMap.mp hq
      obtain ⟨o, e1, rfl⟩ := Option.map_eq_some_iff.mp e
      refine kP_ ?_
      clear kP_ P_
      exact ha
    · intro ha
      obtain ⟨o, e⟩ := hin a ha
      exact List.mem_map.mpr ⟨(a, o), List.mem_filterMap.mpr ⟨a, ha, by rw [e]; rfl⟩, rfl⟩
  refine enter0 (fp.filterMap fun a => (v.get? a).map fun o => (a, o)) binds X T (H.trans V) hown ho hcd hroom hbind hloc hcell hco hgen hk fun g L h₁ fr' Hg Hs Hk F N X T => ?_
  have Hk' : Keeps fp s.heap g := Hk.mono fun q hq => (hfst q).mp hq
  refine h g L h₁ fr' _ ⟨Hk', Hs, fun a ha => ?_, hin, V, fun b o _ e => e, fun b o e => .inl ⟨o, e⟩, H, Hg, fun b o e => ?_, fun q hq => by
    refine Mine.byv fun P_ kP_ => ?_
    obtain ⟨a, _, e⟩ := List.mem_filterMap.mp hq
    obtain ⟨o, e1, rfl⟩ := Option.map_eq_some_iff.mp e
    refine kP_ ?_
    clear kP_ P_
    exact e1⟩ F N X T
  · obtain ⟨q, hq, rfl⟩ := List.mem_map.mp ((hfst a).mpr ha)
    exact (N q hq).2.2
  · have hb : b ∈ fp → (b, o) ∈ fp.filterMap fun a => (v.get? a).map fun o => (a, o) := fun hb => List.mem_filterMap.mpr ⟨b, hb, by rw [e]; rfl⟩
    by_cases q : b ∈ fp
    · exact ⟨(N _ (hb q)).2.1, .inr (hb q)⟩
    · have e' := Hk' b o q (V b o e)
      exact ⟨Nat.ne_of_lt (Nat.lt_of_lt_of_le (Heap.lt_size e') F.above), .inl e'⟩
theorem into {name qual : Str} {params : Arguments} {body : List Stmt} {scope : Scope} {dV kV doc pm cdv ct oc : Value} {an od : Option Addr} {osl : Array (Option Value)} {f : Addr} {args : Args} {R : Result → Shared → Prop}
    (fp : List Addr) (binds : List (Str × Value))
    (X : K.In h₀) (T : TopRead p loose mg mb h₀) (H : Sub h₀ v) (V : Sub v s.heap) (hoff : ∀ a ∈ fp, h₀.get? a = none) (hin : ∀ a ∈ fp, ∃ o, v.get? a = some o)
    (ho : K.lookup f = some ⟨oc, od, .func (fnOf name qual params body scope dV kV doc pm an cdv ct), osl⟩) (hcd : codeIn K cdv qual = true) (hroom : dp < recursionLimit)
    (hbind : bindArgs (fnOf name qual params body scope dV kV doc pm an cdv ct) args = pure binds) (hloc : ∀ y ∈ binds, scope.names.lookup y.1 = some .local)
    (hcell : ∀ x ∈ scope.names, x.2 ≠ .cell) (hco : scope.isCoroutine = false) (hgen : scope.isGenerator = false) (hk : scope.kind = .function)
    (h : ∀ g L h₁ fr' own, let A' : Around := Ar (dp + 1) fr' gd (un + 3); let e_ : Env := envOf qual scope L f cdv; let s1 : Shared := { s with heap := h₁, toks := s.toks + binds.length }; let m0 : Str → Option Value := fun y => binds.reverse.lookup y; Ctx h₀ s.heap v fp g L own v → Fr g L h₁ m0 → News g L h₁ own → K.In g → TopRead p loose mg mb g →
      wpAny (model prog w) A' (execs body e_) (fun fl s' => R (.ok (.ret (match fl with | .ret v => v | _ => .none))) s') (fun _ _ => False) s1) :
    codeAny (model prog w) (Ar dp fr gd un) (.call (.ref f) args) R s :=
  into0 fp binds X T H V hoff hin ho hcd hroom hbind hloc hcell hco hgen hk h
end
/-- what a statement's end is to reach, unseen -/
noncomputable def Kut (Q : Flow → Shared → Prop) (f : Flow) (s : Shared) : Prop := Q f s
structure KutIs (M : Model) (A : Around) (E : Value → Shared → Prop) (rest : List Stmt) (env : Env) (Q Q1 : Flow → Shared → Prop) : Prop where
  next : ∀ s', wpAny M A (execs rest env) Q E s' → Q1 .next s'
  ret : ∀ v s', Q (.ret v) s' → Q1 (.ret v) s'
  brk : ∀ s', Q .brk s' → Q1 .brk s'
  cont : ∀ s', Q .cont s' → Q1 .cont s'
theorem execs_kut {M : Model} {A : Around} {E : Value → Shared → Prop} {s : Shared} {st : Stmt} {rest : List Stmt} {env : Env} {Q : Flow → Shared → Prop} (h : ∀ Q1, KutIs M A E rest env Q Q1 → wpAny M A (exec st env) (Kut Q1) E s) : wpAny M A (execs (st :: rest) env) Q E s := by
  refine wpAny_execs_cons (wpAny_mono (h (fun f s' => match f with | .next => wpAny M A (execs rest env) Q E s' | f => Q f s') ⟨fun _ x => x, fun _ _ x => x, fun _ x => x, fun _ x => x⟩) (fun f s' x => ?_) fun _ _ e => e)
  exact x
theorem kut_next {M : Model} {A : Around} {E : Value → Shared → Prop} {s : Shared} {rest : List Stmt} {env : Env} {Q Q1 : Flow → Shared → Prop} (k : KutIs M A E rest env Q Q1) (h : wpAny M A (execs rest env) Q E s) : Kut Q1 .next s := k.next s h
theorem kut_ret {M : Model} {A : Around} {E : Value → Shared → Prop} {s : Shared} {rest : List Stmt} {env : Env} {Q Q1 : Flow → Shared → Prop} {v : Value} (k : KutIs M A E rest env Q Q1) (h : Q (.ret v) s) : Kut Q1 (.ret v) s := k.ret v s h
theorem kut_brk {M : Model} {A : Around} {E : Value → Shared → Prop} {s : Shared} {rest : List Stmt} {env : Env} {Q Q1 : Flow → Shared → Prop} (k : KutIs M A E rest env Q Q1) (h : Q .brk s) : Kut Q1 .brk s := k.brk s h
theorem kut_cont {M : Model} {A : Around} {E : Value → Shared → Prop} {s : Shared} {rest : List Stmt} {env : Env} {Q Q1 : Flow → Shared → Prop} (k : KutIs M A E rest env Q Q1) (h : Q .cont s) : Kut Q1 .cont s := k.cont s h
theorem room {n k a b c : Nat} (h : n + b < c) (e : Nat.ble (k + a) b = true := by rfl) : n + k + a < c := by
  have := Nat.le_of_ble_eq_true e
  (first | exact ar437 h this | lia)
section
variable {h₀ s0 v0 g vs v' h h' : Heap} {fp fp1 : List Addr} {L : Addr} {own news : List (Addr × Obj)} {m : Str → Option Value} {P0 : Prop}
theorem Ctx.backK (Z : Ctx h₀ s0 v0 fp g L own vs) (F : Fr g L h m) (N : News g L h own) (P : Post h vs v' h' fp1) (hs : ∀ a ∈ fp1, g.get? a = none) (al : ∀ a ∈ fp1, ∃ o, vs.get? a = some o)
    (k : ∀ own', let mm : Str → Option Value := m; Ctx h₀ s0 v0 fp g L own' v' → Fr g L h' mm → News g L h' own' → P0) : P0 := let ⟨own', a, b, c⟩ := Z.back F N P hs al; k own' a b c
theorem Ctx.growK (Z : Ctx h₀ s0 v0 fp g L own vs) (F : Fr g L h m) (N : News g L h news) (hs : ∀ p ∈ own, p ∈ news) (k : ∀ vn, Ctx h₀ s0 v0 fp g L news vn → Sub vs vn → Sub vn h → (∀ p ∈ news, vn.get? p.1 = some p.2) → P0) : P0 :=
  let ⟨vn, a, b, c, d⟩ := Z.grow F N hs; k vn a b c d
theorem Ctx.pureK (Z : Ctx h₀ s0 v0 fp g L own vs) (F : Fr g L h m) (N : News g L h own) (k0 : Sub h h') (k : ∀ v2 own2, let mm : Str → Option Value := m; Ctx h₀ s0 v0 fp g L own2 v2 → Fr g L h' mm → News g L h' own2 → Sub vs v2 → Sub v2 h' → (∀ r d, DatH h' r d → DatH v2 r d) → (∀ b o, h'.get? b = some o → h.get? b = none → v2.get? b = some o) → P0) : P0 :=
  let ⟨v2, own2, a, b, c, d, e, f, i⟩ := Z.pure F N k0; k v2 own2 a b c d e f i
end
section
variable {prog : Program} {w : World} {A : Around} {E : Value → Shared → Prop} {s : Shared}
theorem tuple_no_keys : typeLookup (.type "tuple") "keys" = pure none := by rw [typeLookup_type, builtinLookup_eq_fast]; kernel_rfl
theorem getAttr_no_keys {a : Addr} {xs : Array Value} {k : Nat} {Q : Option Value → Shared → Prop}
    (hx : s.heap.get? a = some { cls := .type "tuple", dict := none, data := .seq xs k, slots := #[] }) (hA : A.handled = none)
    (h : ∀ h' tk, Sub s.heap h' → Q none { s with heap := h', toks := tk }) : wpAny (model prog w) A (getAttr? (.ref a) "keys") Q E s := by
  refine Mine.byv fun P_ kP_ => ?_
  obtain ⟨hp, g, d, tk, os⟩ := s
  refine kP_ ?_
  clear kP_ P_
  have hT : ∀ tk', (⟨hp, g, d, tk', os⟩ : Shared).TypeIs (.ref a) "tuple" := fun _ => ⟨_, hx, rfl⟩
  have f1 := sub_AttributeError
  have f3 := F.slot_tuple_getattribute.lookup
  have f4 := F.slot_tuple_getattribute.bind (.ref a)
  have f5 := am_tuple_getattr_none
  unfold getAttr? getAttrBy? getAttrBy
  repeat (any_goals (first | assumption | exact hT _ | ((with_reducible show wpAny _ _ (call (Value.builtin "tuple.__getattribute__") _ _) _ _ _); refine call_meets F.slot_tuple_getattribute (hT _) am_entry_tuple_getattribute (F.args_tuple_getattribute_2 _ _) (meets_getattribute_miss_tuple a xs k #[] "keys" _ tuple_no_keys (by decide)) ⟨hx, hA, fun h' tk' e hx' => ?_⟩) | wp_step))
  obtain ⟨t', u', he⟩ := hx'.there
  show wpAny _ _ (getattributeRaised _ _ _ _ _ _ _) _ _ _
  unfold getattributeRaised
  repeat (any_goals (first | assumption | wp_step))
  exact h _ _ hx'.of.keeps
end
/-- int counts of an int dict -/
noncomputable def IntVals (kvs : List (Int × Value)) (c : List (Int × Int)) : Prop := kvs.map (fun kv => (kv.1, numOf kv.2)) = c ∧ ∀ kv ∈ kvs, ∃ n t, kv.2 = .int n t
noncomputable def storeI (c : List (Int × Int)) (k x : Int) : List (Int × Int) := if c.any (fun kv => kv.1 = k) then c.map (fun kv => if kv.1 = k then (kv.1, x) else kv) else c ++ [(k, x)]
theorem IntVals.keys {kvs : List (Int × Value)} {c : List (Int × Int)} (h : IntVals kvs c) : kvs.map (·.1) = c.map (·.1) := by
  rw [← h.1, List.map_map]; rfl
theorem IntVals.length {kvs : List (Int × Value)} {c : List (Int × Int)} (h : IntVals kvs c) : kvs.length = c.length := by
  rw [← h.1, List.length_map]
theorem IntVals.store {kvs : List (Int × Value)} {c : List (Int × Int)} (h : IntVals kvs c) (k x : Int) (t : Tok) : IntVals (stored kvs k (.int x t)) (storeI c k x) := by
  have ha : kvs.any (fun kv => kv.1 = k) = c.any (fun kv => kv.1 = k) := by
    rw [← h.1, List.any_map]; rfl
  unfold stored storeI
  rw [← ha]
  by_cases q : kvs.any (fun kv => kv.1 = k) = true
  · rw [if_pos q, if_pos q]
    refine ⟨?_, fun kv hkv => ?_⟩
    · rw [← h.1, List.map_map, List.map_map]
      refine List.map_congr_left fun kv _ => ?_
      by_cases e : kv.1 = k <;> simp [e, numOf]
    · obtain ⟨p, hp, rfl⟩ := List.mem_map.mp hkv
      by_cases e : p.1 = k
      · exact ⟨x, t, by simp [e]⟩
      · rw [if_neg e]; exact h.2 p hp
  · rw [if_neg q, if_neg q]
    refine ⟨by rw [List.map_append, h.1]; rfl, fun kv hkv => ?_⟩
    rcases List.mem_append.mp hkv with hkv | hkv
    · exact h.2 kv hkv
    · rw [List.mem_singleton.mp hkv]; exact ⟨x, t, rfl⟩
theorem IntVals.at {kvs : List (Int × Value)} {c : List (Int × Int)} (h : IntVals kvs c) (k : Int) : (∃ t, valueAt kvs k = some (.int (cnt c k) t)) ∨ (valueAt kvs k = none ∧ ∀ x ∈ c, x.1 ≠ k) := by
  obtain ⟨rfl, h2⟩ := h
  induction kvs with
  | nil => exact .inr ⟨rfl, by simp⟩
  | cons kv kvs ih =>
    unfold valueAt
    by_cases e : kv.1 = k
    · obtain ⟨n, t, hv⟩ := h2 kv (.head _)
      refine .inl ⟨t, ?_⟩
      simp [cnt, e, hv, numOf]
    · rcases ih (fun p hp => h2 p (.tail _ hp)) with ⟨t, ht⟩ | ⟨h1, h3⟩
      · refine .inl ⟨t, ?_⟩
        unfold valueAt at ht
        simp [List.find?_cons, e, cnt] at ht ⊢
        exact ht
      · refine .inr ⟨?_, fun x hx => ?_⟩
        · unfold valueAt at h1
          simp [List.find?_cons, e] at h1 ⊢
          exact h1
        · rw [List.map_cons] at hx
          rcases Mine.mem_sym hx with rfl | hx
          · exact e
          · exact h3 x hx
/-- an int dict of counts, in the heap -/
noncomputable def IntD (prog : Program) (w : World) (h : Heap) (d : Addr) (c : List (Int × Int)) : Prop := ∃ kvs, h.DictOf (intKind prog w) d kvs ∧ IntVals kvs c
section
variable {prog : Program} {w : World} {A : Around} {E : Value → Shared → Prop} {s : Shared}
theorem plain_update_loop : plainId "dict.update.loop" = true := by decide +kernel
theorem entry_update_loop : entryFor table "dict.update.loop" = some Builtin.«dict.update.loop» := entryFor_of_fast (by kernel_rfl)
theorem code_update_loop {I a D : Addr} {vs : List Value} {c : List (Int × Int)} {R : Result → Shared → Prop} (hA : A.handled = none) (hIa : a ≠ I) (hDI : D ≠ I) (hsz : c.length ≤ sizeLine) :
    ∀ (k i : Nat) (s : Shared) (acc : List (Int × Int)) (u : Tok), vs.length - i = k → i ≤ vs.length → s.heap.IsTupleIter I a i → s.heap.IsTuple a vs.toArray → D ≠ a → (∃ h₀, DatsH h₀ vs (c.map pairD) ∧ Keeps [D, I] h₀ s.heap ∧ NoTup h₀ [D, I]) → acc.length ≤ i → IntD prog w s.heap D acc →
    (∀ h' tk, Keeps [D, I] s.heap h' → IntD prog w h' D ((c.drop i).foldl (fun a x => storeI a x.1 x.2) acc) → R (.ok (.ret .none)) { s with heap := h', toks := tk }) →
    codeAny (model prog w) A (.builtin "dict.update.loop" ⟨[.ref D, .ref I, .int i u, .none], []⟩) R s := by
  have W := Walks.tuple (prog := prog) (w := w) (A := A.in1) hA I a hIa vs.toArray
  have hvl : vs.toArray.size = vs.length := by simp
  rw [hvl] at W
  intro k
  induction k with
  | zero =>
    intro i s acc u hk hi hit hit2 hDa hd hal hacc hR
    have hin : i = vs.length := by (first | exact ar286 hk hi | lia)
    subst hin
    refine codeAny_builtin entry_update_loop ?_
    rw [Around.under_plainId plain_update_loop _]
    show wpAny _ A.in1 (pyNext (.ref I) >>= _) _ _ s
    refine wpAny_bind (W.done s _ _ ⟨hit, hit2⟩ fun h' tk hm => ?_)
    show wpAny _ _ (Builtin.Dict.addKeywords D [] >>= _) _ _ _
    refine wpAny_bind (wpAny_pure (wpAny_pure ?_))
    refine Mine.byv fun P_ kP_ => ?_
    obtain ⟨h₀, hd, _, _⟩ := hd
    refine kP_ ?_
    clear kP_ P_
    have hl := hd.length
    rw [List.length_map] at hl
    have k1 : Keeps [D, I] s.heap h' := fun b o n e => hm b o (by simp at n ⊢; exact n.2) e
    refine hR h' tk k1 ?_
    rw [List.drop_of_length_le (by (first | exact ar82 hl | lia))]
    obtain ⟨kvs, hD, hv⟩ := hacc
    exact ⟨kvs, hD.at fun o e => hm D o (by first | exact Mine.nin1 (hDI) | exact Mine.all1 (hDI) | simpa using hDI) e, hv⟩
  | succ k ih =>
    intro i s acc u hk hi hit hit2 hDa hd hal hacc hR
    have hlt : i < vs.length := by (first | exact ar359 hk | lia)
    refine codeAny_builtin entry_update_loop ?_
    rw [Around.under_plainId plain_update_loop _]
    show wpAny _ A.in1 (pyNext (.ref I) >>= _) _ _ s
    refine wpAny_bind (W.item i s _ _ hlt ⟨hit, hit2⟩ fun v h1 tk hP hst hm => ?_)
    refine Mine.byv fun P_ kP_ => ?_
    obtain ⟨h₀, hd, hk0, hnt⟩ := hd
    refine kP_ ?_
    clear kP_ P_
    have hl := hd.length
    rw [List.length_map] at hl
    refine Mine.byv fun P_ kP_ => ?_
    obtain ⟨q, hq, b, n', t1, t2, rfl, hb0⟩ := pair_at hd (i := i) (v := v) (by first | exact Mine.nin1 (hP) | exact Mine.all1 (hP) | simpa using hP)
    refine kP_ ?_
    clear kP_ P_
    have hbn : b ∉ [D, I] := fun m => hnt b m _ hb0 ⟨rfl, _, _, rfl⟩
    have hb : s.heap.get? b = some (tupObj [.int q.1 t1, .int q.2 t2] n') := hk0 _ _ hbn hb0
    have hb1 : h1.get? b = some (tupObj [.int q.1 t1, .int q.2 t2] n') := hm b _ (by simp at hbn ⊢; exact hbn.2) hb
    obtain ⟨kvs, hD, hv⟩ := hacc
    have hD1 : h1.DictOf (intKind prog w) D kvs := hD.at fun o e => hm D o (by first | exact Mine.nin1 (hDI) | exact Mine.all1 (hDI) | simpa using hDI) e
    refine wpAny_bind (wpAny_holding ?_)
    refine wpAny_bind (wpAny_tryCatch ?_)
    show wpAny _ _ (Builtin.Dict.pairItems (.ref b)) _ _ _
    unfold Builtin.Dict.pairItems
    refine wpAny_bind (wpAny_typeOf (T := "tuple") ⟨_, hb1, rfl⟩ ?_)
    rw [if_pos (by decide)]
    refine wpAny_bind (wpAny_seqItems hb1 rfl (wpAny_pure ?_))
    dsimp only [Option.getD]
    refine wpAny_holding ?_
    refine wpAny_dictSet_pairs (knd := intKind prog w) (intKind_is prog w q.1 t1) hD1 (fun h2 hD2 hs2 => ?_) (by rw [hv.length]; (first | exact ar454 hsz hk hal hl | lia))
    refine wpAny_pure ⟨plainId_quiet plain_update_loop _, ?_⟩
    have hkk : Keeps [D, I] s.heap h2 := fun x o n e => by
      have n' : x ≠ D ∧ x ≠ I := by simpa using n
      exact (hs2.2 x n'.1).trans (hm x o (by first | exact Mine.nin1 (n'.2) | exact Mine.all1 (n'.2) | simpa using n'.2) e)
    refine ih (i + 1) _ (storeI acc q.1 q.2) _ (by (first | exact ar358 hk | lia)) hlt (hst.1.at fun o e => (hs2.2 I (Ne.symm hDI)).trans e) (hst.2.at fun o e => (hs2.2 a (Ne.symm hDa)).trans e) hDa ⟨h₀, hd, hk0.trans hkk, hnt⟩ ?_ ⟨_, hD2, hv.store _ _ _⟩ fun h' tk hk' hD' => ?_
    · rw [← (hv.store q.1 q.2 t2).length]
      have e1 := stored_length_le kvs q.1 (.int q.2 t2)
      have e2 := hv.length
      (first | exact ar429 hal e1 e2 | lia)
    · refine hR h' tk (hkk.trans hk') ?_
      rwa [List.drop_eq_getElem_cons (by (first | exact ar410 hk hl | lia)), List.foldl_cons, show c[i] = q from (List.getElem?_eq_some_iff.mp hq).2]
theorem call_dict_pairs {a : Addr} {vs : List Value} {n : Nat} {c : List (Int × Int)} {Q : Value → Shared → Prop} (hA : A.handled = none) (ho : s.heap.get? a = some (tupObj vs n)) (hd : DatsH s.heap vs (c.map pairD)) (hsz : c.length ≤ sizeLine)
    (h : ∀ h' tk, Sub s.heap h' → IntD prog w h' s.heap.objs.size (c.foldl (fun a x => storeI a x.1 x.2) []) → Q (.ref s.heap.objs.size) { s with heap := h', toks := tk }) :
    wpAny (model prog w) A (call (.type "dict") [.ref a]) Q E s := by
  refine callType_codes (Q₁ := fun obj s₁ => obj = .ref s.heap.objs.size ∧ s₁ = { s with heap := s.heap.push { cls := .type "dict", data := .dict #[] } }) F.kt_called_dict (F.kt_typeCall_dict_1 _) F.entry_dict_init (kt_code_dict_new _ ⟨rfl, rfl⟩) ?_
  intro obj s₁ hp2_
  obtain ⟨rfl, rfl⟩ := hp2_
  have hnew : (s.heap.push { cls := .type "dict", data := .dict #[] }).DictOf (intKind prog w) s.heap.objs.size [] := Heap.DictOf.new s.heap
  have hp : Sub s.heap (s.heap.push { cls := .type "dict", data := .dict #[] }) := fun b o e => Heap.get?_push_of_some _ e
  have ho' := hp _ _ ho
  refine ⟨hnew.typeIs, F.args_dict_init_2 _ _, ?_⟩
  unfold Builtin.«dict.__init__»
  refine wpAny_bind ?_
  unfold Builtin.Dict.selfAndRest
  refine wpAny_bind (wpAny_notOrdered_dict hnew.typeIs ?_)
  show wpAny _ _ (pure (s.heap.objs.size, [Value.ref a])) _ _ _
  refine wpAny_pure ?_
  show wpAny _ _ (Builtin.Dict.updateFrom "dict.__init__" s.heap.objs.size (.ref a) [] .none) _ _ _
  unfold Builtin.Dict.updateFrom
  refine wpAny_bind (wpAny_typeOf (T := "tuple") ⟨_, ho', rfl⟩ ?_)
  rw [if_pos (by decide)]
  refine wpAny_bind (getAttr_no_keys ho' hA fun h1 tk hs1 => ?_)
  rw [if_pos (by rfl)]
  refine wpAny_bind (wpAny_rule ?_)
  refine wpAny_bind (wpAny_pyIter_tuple (items := vs.toArray) ⟨_, hs1 _ _ ho', rfl, n, rfl⟩ ?_)
  have hlt : s.heap.objs.size < h1.objs.size := by
    refine Mine.byv fun P_ kP_ => ?_
    obtain ⟨o, _, _, hg, _⟩ := hnew.keep hs1
    refine kP_ ?_
    clear kP_ P_
    exact Heap.lt_size hg
  have hal : a < s.heap.objs.size := Heap.lt_size ho
  have hpush : Sub h1 (h1.push { cls := .type "tuple_iterator", data := .fields #[.ref a, .int 0 0] }) := fun b o e => Heap.get?_push_of_some _ e
  refine wpAny_pure ⟨plainId_quiet plain_update_loop _, code_update_loop (a := a) (D := s.heap.objs.size) (vs := vs) (c := c) (by exact hA) (Nat.ne_of_lt (Nat.lt_trans hal hlt)) (Nat.ne_of_lt hlt) hsz vs.length 0 _ [] 0 rfl (Nat.zero_le _) ⟨_, Heap.get?_push_size _ rfl, rfl, rfl⟩ ⟨_, hpush _ _ (hs1 _ _ ho'), rfl, n, rfl⟩ (Nat.ne_of_gt hal)
    ⟨s.heap, hd, fun b o _ e => hpush _ _ (hs1 _ _ (hp _ _ e)), fun b hb o e _ => ?_⟩ (Nat.le_refl _) ⟨[], (hnew.keep hs1).keep hpush, rfl, by simp⟩ fun h' tk hk' hD' => ⟨rfl, ?_⟩⟩
  · have hbs : b < s.heap.objs.size := Heap.lt_size e
    rcases Mine.mem_sym hb with rfl | hb
    · exact absurd hbs (Nat.lt_irrefl _)
    · have : b = h1.objs.size := by simpa using hb
      rw [this] at hbs
      exact absurd (Nat.lt_trans hbs hlt) (Nat.lt_irrefl _)
  · refine h h' tk (fun b o e => hk' b o ?_ (hpush _ _ (hs1 _ _ (hp _ _ e)))) hD'
    have hbs : b < s.heap.objs.size := Heap.lt_size e
    simp only [List.mem_cons, List.not_mem_nil, or_false, not_or]
    exact ⟨Nat.ne_of_lt hbs, Nat.ne_of_lt (Nat.lt_trans hbs hlt)⟩
end
/-- a plain dict with its entries, whatever their keys -/
noncomputable def RawAt (h : Heap) (d : Addr) (es : Array DictEntry) (ep : Nat) : Prop := ∃ o, h.get? d = some o ∧ o.ExactDict ∧ o.data = .dict es ep
theorem RawAt.at {h h' : Heap} {d : Addr} {es : Array DictEntry} {ep : Nat} (x : RawAt h d es ep) (k : ∀ o, h.get? d = some o → h'.get? d = some o) : RawAt h' d es ep := let ⟨o, a, b⟩ := x; ⟨o, k o a, b⟩
theorem RawAt.typeIs {s : Shared} {d : Addr} {es : Array DictEntry} {ep : Nat} (x : RawAt s.heap d es ep) : s.TypeIs (.ref d) "dict" := let ⟨o, a, b, _⟩ := x; ⟨o, a, b.1⟩
theorem RawAt.lt_size {h : Heap} {d : Addr} {es : Array DictEntry} {ep : Nat} (x : RawAt h d es ep) : d < h.objs.size := let ⟨_, a, _⟩ := x; Heap.lt_size a
section
variable {prog : Program} {w : World} {A : Around} {E : Value → Shared → Prop} {s : Shared} {d it : Addr} {es : Array DictEntry} {ep i : Nat}
theorem raw_iter {Q : Value → Shared → Prop} (hd : (d == sysModules) = false) (hm : RawAt s.heap d es ep)
    (hQ : Q (.ref s.heap.objs.size) { s with heap := s.heap.push { cls := .type "dict_keyiterator", data := .fields #[.ref d, .int 0 0, .int es.size 0, .int ep 0] } }) : wpAny (model prog w) A (pyIter (.ref d)) Q E s := by
  have hT := hm.typeIs
  refine Mine.byv fun P_ kP_ => ?_
  obtain ⟨o, ho, hc, hdat⟩ := hm
  refine kP_ ?_
  clear kP_ P_
  refine wpAny_pyIter_slot hT F.slot_dict_iter (wpAny_call_entry F.slot_dict_iter hT F.entry_dict_iter ?_ (F.args_dict_iter_1 _))
  unfold Builtin.«dict.__iter__» Builtin.Dict.dictSlotNone
  refine wpAny_bind (wpAny_bind (wpAny_notOrdered_dict hT ?_))
  refine wpAny_pure (a := Value.ref d) ?_
  show wpAny _ _ (Builtin.Dict.showsAll d >>= _) _ _ s
  unfold Builtin.Dict.showsAll
  rw [if_neg (by rw [hd]; exact Bool.false_ne_true)]
  refine wpAny_bind (wpAny_pure (wpAny_bind (wpAny_dictEntries ho hdat (wpAny_bind (wpAny_dictEpoch ho hdat ?_)))))
  exact wpAny_bind (wpAny_newObj_type (wpAny_pure ⟨_, rfl, "dict_keyiterator", _, ⟨_, Heap.get?_push_size _ rfl, rfl⟩, F.slot_dict_keyiterator_next.lookup, hQ⟩))
theorem raw_item {e : DictEntry} {Q : Option Value → Shared → Prop} (hit : s.heap.IsKeyIter it d i es.size ep) (hm : RawAt s.heap d es ep) (hx : es[i]? = some e)
    (hQ : ∀ h', h'.IsKeyIter it d (i + 1) es.size ep → Heap.SameBut it s.heap h' → Q (some e.key) { s with heap := h' }) : wpAny (model prog w) A (pyNext (.ref it)) Q E s := by
  have hT := hit.typeIs
  refine Mine.byv fun P_ kP_ => ?_
  obtain ⟨o, ho, hc, hd⟩ := id hit
  obtain ⟨od, hod, hcd, hdd⟩ := hm
  refine kP_ ?_
  clear kP_ P_
  unfold pyNext
  refine wpAny_bind (wpAny_attempt (wpAny_callSpecial?_slot (name := Str.ofString "__next__") hT F.slot_dict_keyiterator_next
    (wpAny_call_entry F.slot_dict_keyiterator_next hT F.entry_dict_keyiterator_next ?_ (F.args_dict_keyiterator_next_1 _))))
  refine wpAny_bind (wpAny_pure (wpAny_bind (wpAny_bind (wpAny_bind ?_))))
  refine wpAny_typeNameOfWhole_keyiter hT (wpAny_pure (wpAny_bind (wpAny_fieldsOf ho hd ?_)))
  have hown : Builtin.Dict_items.ownsTuple "dict_keyiterator" = false := by decide
  rw [hown, if_neg Bool.false_ne_true]
  show wpAny _ _ (if (Value.ref d == Value.none) = true then _ else _) _ _ s
  rw [if_neg (show ¬ ((Value.ref d == Value.none) = true) from Bool.false_ne_true)]
  refine wpAny_bind (wpAny_pure (wpAny_bind (wpAny_dictEntries hod hdd ?_)))
  rw [if_neg (by first | exact nin_nil | exact all_nil | ((repeat (first | exact .head _ | refine .tail _ ?_)); done) | simp)]
  refine wpAny_bind (wpAny_pure (wpAny_bind (wpAny_dictEpoch hod hdd ?_)))
  rw [if_neg (by first | exact nin_nil | exact all_nil | ((repeat (first | exact .head _ | refine .tail _ ?_)); done) | simp)]
  refine wpAny_pure ?_
  dsimp only
  rw [if_neg (Int.not_lt.mpr (Int.natCast_nonneg i))]
  rw [Int.toNat_natCast, hx]
  dsimp only
  refine wpAny_bind (wpAny_bind (wpAny_typeNameOfWhole_keyiter hT (wpAny_pure (wpAny_bind (wpAny_isOneOf_keyiter hT ?_)))))
  show wpAny _ _ (setField (.ref it) 1 (rawInt ((i : Int) + 1)) >>= _) _ _ s
  refine wpAny_bind (wpAny_setField ho hd (by first | exact nin_nil | exact all_nil | ((repeat (first | exact .head _ | refine .tail _ ?_)); done) | simp) ?_)
  have hit' : (s.heap.update it (Obj.mapFields (·.setIfInBounds 1 (rawInt ((i : Int) + 1))))).IsKeyIter it d (i + 1) es.size ep :=
    ⟨_, Heap.get?_update_self _ ho (Obj.isFreed_of_fields (Obj.data_mapFields hd _)), (Obj.cls_mapFields ..).trans hc, by rw [Obj.data_mapFields hd]; simp [rawInt]⟩
  refine wpAny_bind (wpAny_holding (wpAny_bind (wpAny_isOneOf_keyiter (s := { s with heap := s.heap.update it (Obj.mapFields (·.setIfInBounds 1 (rawInt ((i : Int) + 1)))) }) hit'.typeIs ?_)))
  show wpAny _ _ (pure e.key) _ _ _
  exact wpAny_pure (wpAny_pure ⟨_, rfl, wpAny_pure (hQ _ hit' (Heap.SameBut.update ..))⟩)
theorem raw_end {Q : Option Value → Shared → Prop} (hh : A.handled = none) (hit : s.heap.IsKeyIter it d i es.size ep) (hm : RawAt s.heap d es ep) (hx : es.size ≤ i)
    (hQ : ∀ h', Heap.ExtBut it s.heap h' → Q none { s with heap := h' }) : wpAny (model prog w) A (pyNext (.ref it)) Q E s := by
  have hT := hit.typeIs
  refine Mine.byv fun P_ kP_ => ?_
  obtain ⟨o, ho, hc, hd⟩ := id hit
  obtain ⟨od, hod, hcd, hdd⟩ := hm
  refine kP_ ?_
  clear kP_ P_
  unfold pyNext
  refine wpAny_bind (wpAny_attempt (wpAny_callSpecial?_slot (name := Str.ofString "__next__") hT F.slot_dict_keyiterator_next
    (wpAny_call_entry F.slot_dict_keyiterator_next hT F.entry_dict_keyiterator_next ?_ (F.args_dict_keyiterator_next_1 _))))
  refine wpAny_bind (wpAny_pure (wpAny_bind (wpAny_bind (wpAny_bind ?_))))
  refine wpAny_typeNameOfWhole_keyiter hT (wpAny_pure (wpAny_bind (wpAny_fieldsOf ho hd ?_)))
  have hown : Builtin.Dict_items.ownsTuple "dict_keyiterator" = false := by decide
  rw [hown, if_neg Bool.false_ne_true]
  show wpAny _ _ (if (Value.ref d == Value.none) = true then _ else _) _ _ s
  rw [if_neg (show ¬ ((Value.ref d == Value.none) = true) from Bool.false_ne_true)]
  refine wpAny_bind (wpAny_pure (wpAny_bind (wpAny_dictEntries hod hdd ?_)))
  rw [if_neg (by first | exact nin_nil | exact all_nil | ((repeat (first | exact .head _ | refine .tail _ ?_)); done) | simp)]
  refine wpAny_bind (wpAny_pure (wpAny_bind (wpAny_dictEpoch hod hdd ?_)))
  rw [if_neg (by first | exact nin_nil | exact all_nil | ((repeat (first | exact .head _ | refine .tail _ ?_)); done) | simp)]
  refine wpAny_pure ?_
  dsimp only
  rw [if_neg (Int.not_lt.mpr (Int.natCast_nonneg i))]
  rw [Int.toNat_natCast, Array.getElem?_eq_none hx]
  dsimp only
  refine wpAny_bind (wpAny_bind (wpAny_typeNameOfWhole_keyiter hT (wpAny_pure ?_)))
  show wpAny _ _ (setField (.ref it) 0 .none >>= _) _ _ s
  refine wpAny_bind (wpAny_setField ho hd (by first | exact nin_nil | exact all_nil | ((repeat (first | exact .head _ | refine .tail _ ?_)); done) | simp) ?_)
  show wpAny _ _ (newExc (.type "StopIteration") [] >>= _) _ _ _
  refine wpAny_bind ?_
  simp only [newExc, newTuple]
  refine wpAny_bind (wpAny_newObj_type ?_ (by size_fits))
  refine wpAny_bind (m := firstArgMember _ _) (wpAny_of_eq (a := Value.none) (by first | rfl | (simp only [firstArgMember]; rfl)) ?_)
  refine wpAny_newObj_type ?_ (by size_fits)
  simp only [raiseNew]
  refine wpAny_bind (wpAny_handled ?_)
  rw [show A.in1.handled = none from hh]
  refine wpAny_bind (wpAny_pure (wpAny_throw ?_))
  refine wpAny_bind (wpAny_isInstance (T := "StopIteration") (b := true) ⟨_, Heap.get?_push_size _ rfl, rfl⟩ isSubtype_stop ?_)
  exact wpAny_pure (hQ _ (((Heap.SameBut.update ..).extBut.push _).push _))
theorem raw_walks (hh : A.handled = none) (I : Addr) (hne : d ≠ I) :
    Walks prog w A I [I, d] [I] es.size (fun i v => ∃ e, es[i]? = some e ∧ v = e.key) (fun i h => h.IsKeyIter I d i es.size ep ∧ RawAt h d es ep) where
  sub := fun b hb => by simp at hb; simp [hb]
  frame := fun _ _ _ st hk => ⟨st.1.at fun o e => hk I (by first | exact nin_nil | exact all_nil | ((repeat (first | exact .head _ | refine .tail _ ?_)); done) | simp) o e, st.2.at fun o e => hk d (by first | exact nin_nil | exact all_nil | ((repeat (first | exact .head _ | refine .tail _ ?_)); done) | simp) o e⟩
  item := fun i s Q E hi st hQ => by
    refine raw_item st.1 st.2 (e := es[i]) (by first | ((repeat' (first | exact nin_nil | exact all_nil | (refine nin_cons ?_ ?_) | (refine all_cons ?_ ?_) | assumption | exact Ne.symm (by assumption))); done) | simp [hi]) fun h' hit' hs' => ?_
    exact hQ _ h' s.toks ⟨es[i], by simp [hi], rfl⟩ ⟨hit', st.2.at fun o e => (hs'.2 d hne).trans e⟩ fun b o hb e => (hs'.2 b (by first | exact Mine.nin1 (hb) | exact Mine.all1 (hb) | simpa using hb)).trans e
  done := fun s Q E st hQ => raw_end hh st.1 st.2 (Nat.le_refl _) fun h' he' => hQ h' s.toks fun b o hb e => he' b o (by first | exact Mine.nin1 (hb) | exact Mine.all1 (hb) | simpa using hb) e
  self := fun _ _ _ _ st hQ => wpAny_pyIter_keyiter st.1 hQ
theorem raw_src (lo : (d == sysModules) = false) : KdlSrc prog w "dict" d d es.size (fun i v => ∃ e, es[i]? = some e ∧ v = e.key) (fun h => RawAt h d es ep) where
  type := fun _ hm => hm.typeIs
  there := fun _ hm => ⟨hm.lt_size, hm.lt_size⟩
  keep := fun _ _ hm hk => hm.at fun o e => hk d (.inl rfl) o e
  notList := by decide
  notTuple := by decide
  hint := fun _ _ _ _ hm hq => kdl_hint_dict hm.typeIs hq
  iter := fun _ _ hh hm => ⟨_, _, (fun _ _ hq => raw_iter lo hm hq), raw_walks hh _ (Nat.ne_of_lt hm.lt_size), ⟨⟨_, Heap.get?_push_size _ rfl, rfl, rfl⟩, hm.at fun o e => Heap.get?_push_of_some _ e⟩⟩
theorem raw_collect {R : List Value → Shared → Prop} (lo : (d == sysModules) = false) (hh : A.handled = none) (hm : RawAt s.heap d es ep) (hn : es.size ≤ sizeLine)
    (h : ∀ h' tk, Sub s.heap h' → R (es.toList.map (·.key)) { s with heap := h', toks := tk }) : wpAny (model prog w) A (collect (.ref d)) R E s := by
  refine kdu_collect (raw_src lo) hh hm hn fun h' tk acc hk hacc => ?_
  have : acc.toList = es.toList.map (·.key) := by
    refine List.ext_getElem? fun j => ?_
    rw [List.getElem?_map, Array.getElem?_toList, Array.getElem?_toList]
    by_cases hj : j < es.size
    · have hj' : j < acc.size := by rw [hacc.1]; exact hj
      obtain ⟨e, he, hv⟩ := hacc.2 j acc[j] (by first | ((repeat' (first | exact nin_nil | exact all_nil | (refine nin_cons ?_ ?_) | (refine all_cons ?_ ?_) | assumption | exact Ne.symm (by assumption))); done) | simp [hj'])
      rw [he, Array.getElem?_eq_getElem hj', hv]; rfl
    · rw [Array.getElem?_eq_none (by rw [hacc.1]; (first | exact ar16 hj | lia)), Array.getElem?_eq_none (by (first | exact ar16 hj | lia))]; rfl
  rw [this]
  exact h h' tk hk
end
noncomputable def LE (key : Keyed → List Int) (x y : Keyed) : Prop := lle (key x) (key y)
/-- a merge under way, from below -/
structure MInv (key : Keyed → List Int) (a b out : List Keyed) (ia ib : Nat) : Prop where
  perm : out.Perm (a.take ia ++ b.take ib)
  sorted : out.Pairwise (LE key)
  ha : ∀ x ∈ out, ∀ y ∈ a.drop ia, LE key x y
  hb : ∀ x ∈ out, ∀ y ∈ b.drop ib, LE key x y
section
variable {key : Keyed → List Int} {a b out : List Keyed} {ia ib : Nat}
theorem MInv.swap (h : MInv key a b out ia ib) : MInv key b a out ib ia := ⟨h.perm.trans List.perm_append_comm, h.sorted, h.hb, h.ha⟩
theorem MInv.nil : MInv key a b [] 0 0 := ⟨by simp, .nil, by simp, by simp⟩
theorem MInv.appA (h : MInv key a b out ia ib) (hA : a.Pairwise (LE key)) {k : Nat} (hx : ∀ x ∈ (a.drop ia).take k, ∀ y ∈ b.drop ib, LE key x y) : MInv key a b (out ++ (a.drop ia).take k) (ia + k) ib := by
  have e : a.drop ia = (a.drop ia).take k ++ a.drop (ia + k) := by
    rw [← List.drop_drop]; exact (List.take_append_drop k (a.drop ia)).symm
  have hA' : (a.drop ia).Pairwise (LE key) := hA.sublist (List.drop_sublist _ _)
  rw [e, List.pairwise_append] at hA'
  refine ⟨?_, List.pairwise_append.mpr ⟨h.sorted, hA'.1, fun x hx y hy => h.ha x hx y (List.mem_of_mem_take hy)⟩, fun x hx' y hy => ?_, fun x hx' y hy => ?_⟩
  · rw [List.take_add]
    refine (h.perm.append_right _).trans ?_
    rw [List.append_assoc, List.append_assoc]
    exact List.Perm.append_left _ List.perm_append_comm
  · rcases List.mem_append.mp hx' with hx' | hx'
    · exact h.ha x hx' y (by rw [e]; exact List.mem_append_right _ hy)
    · exact hA'.2.2 x hx' y hy
  · rcases List.mem_append.mp hx' with hx' | hx'
    · exact h.hb x hx' y hy
    · exact hx x hx' y hy
theorem MInv.appB (h : MInv key a b out ia ib) (hB : b.Pairwise (LE key)) {k : Nat} (hx : ∀ x ∈ (b.drop ib).take k, ∀ y ∈ a.drop ia, LE key x y) : MInv key a b (out ++ (b.drop ib).take k) ia (ib + k) := (h.swap.appA hB hx).swap
theorem take_one_drop {l : List Keyed} {i : Nat} (hi : i < l.length) : (l.drop i).take 1 = [l[i]] := by
  rw [List.drop_eq_getElem_cons hi, List.take_succ_cons, List.take_zero]
theorem MInv.pushA (h : MInv key a b out ia ib) (hA : a.Pairwise (LE key)) (hi : ia < a.length) (hx : ∀ y ∈ b.drop ib, LE key a[ia] y) : MInv key a b (out ++ [a[ia]]) (ia + 1) ib := by
  have := h.appA hA (k := 1) (by rw [take_one_drop hi]; intro x hx' y hy; rw [List.mem_singleton.mp hx']; exact hx y hy)
  rwa [take_one_drop hi] at this
theorem MInv.pushB (h : MInv key a b out ia ib) (hB : b.Pairwise (LE key)) (hi : ib < b.length) (hx : ∀ y ∈ a.drop ia, LE key b[ib] y) : MInv key a b (out ++ [b[ib]]) ia (ib + 1) := (h.swap.pushA hB hi hx).swap
noncomputable def Merged (key : Keyed → List Int) (a b r : List Keyed) : Prop := r.Perm (a ++ b) ∧ r.Pairwise (LE key)
theorem MInv.done (h : MInv key a b out ia ib) (hA : a.Pairwise (LE key)) (hB : b.Pairwise (LE key)) (hx : ∀ x ∈ a.drop ia, ∀ y ∈ b.drop ib, LE key x y) : Merged key a b (out ++ a.drop ia ++ b.drop ib) := by
  refine ⟨?_, List.pairwise_append.mpr ⟨List.pairwise_append.mpr ⟨h.sorted, hA.sublist (List.drop_sublist _ _), h.ha⟩, hB.sublist (List.drop_sublist _ _), fun x hx' y hy => ?_⟩⟩
  · refine ((h.perm.append_right _).append_right _).trans ?_
    rw [List.append_assoc, List.append_assoc, ← List.append_assoc (b.take ib)]
    refine (List.Perm.append_left _ (List.Perm.append_right _ List.perm_append_comm)).trans ?_
    rw [List.append_assoc, List.take_append_drop, ← List.append_assoc, List.take_append_drop]
  · rcases List.mem_append.mp hx' with hx' | hx'
    · exact h.hb x hx' y hy
    · exact hx x hx' y hy
theorem MInv.last (h : MInv key a b out ia ib) (hA : a.Pairwise (LE key)) (hB : b.Pairwise (LE key)) (hx : ∀ x ∈ b.drop ib, ∀ y ∈ a.drop ia, LE key x y) : Merged key a b (out ++ b.drop ib ++ a.drop ia) :=
  let ⟨p, q⟩ := h.swap.done hB hA hx
  ⟨p.trans List.perm_append_comm, q⟩
theorem le_drop {l : List Keyed} (hl : l.Pairwise (LE key)) {i : Nat} (hi : i < l.length) : ∀ y ∈ l.drop i, LE key l[i] y := by
  intro y hy
  have h := hl.sublist (List.drop_sublist i l)
  rw [List.drop_eq_getElem_cons hi] at h hy
  rcases List.mem_cons.mp hy with rfl | hy
  · exact lle_refl _
  · exact (List.pairwise_cons.mp h).1 y hy
theorem LE.trans {x y z : Keyed} (h1 : LE key x y) (h2 : LE key y z) : LE key x z := lle_trans h1 h2
theorem le_at {l : List Keyed} (hl : l.Pairwise (LE key)) {i j : Nat} (hij : i ≤ j) (hj : j < l.length) : LE key (l[i]'(by (first | exact ar109 hij hj | lia))) l[j] := by
  by_cases e : i = j
  · subst e; exact lle_refl _
  · exact List.pairwise_iff_getElem.mp hl i j (by (first | exact ar109 hij hj | lia)) hj (by (first | exact ar34 hij e | lia))
end
section
variable {prog : Program} {w : World} {A : Around} {E : Value → Shared → Prop} {s : Shared} {κ : SortKind} {S : Keyed → Prop} {key : Keyed → List Int}
/-- but for the gallop's bound the state is as it was -/
noncomputable def SameG (st st' : SortSt) : Prop := kindOf st' = kindOf st ∧ arrOf st' = arrOf st ∧ pendingOf st' = pendingOf st ∧ failedOf st' = failedOf st
theorem SameG.refl (st : SortSt) : SameG st st := ⟨rfl, rfl, rfl, rfl⟩
theorem SameG.trans {a b c : SortSt} (h : SameG a b) (k : SameG b c) : SameG a c := ⟨k.1.trans h.1, k.2.1.trans h.2.1, k.2.2.1.trans h.2.2.1, k.2.2.2.trans h.2.2.2⟩
theorem wpS_setG {st : SortSt} {g : Nat} {Q : Unit → SortSt → Prop} (h : ∀ st', SameG st st' → Q () st') : wpS (model prog w) A E s (setMinGallop' g) Q st := by
  rw [setMinGallop'_eq]
  exact wpS_modify (h _ ⟨rfl, rfl, rfl, rfl⟩)
theorem wpS_ite {α : Type} {c : Prop} [Decidable c] {x y : StateT SortSt Sem α} {st : SortSt} {Q : α → SortSt → Prop} (h1 : c → wpS (model prog w) A E s x Q st) (h2 : ¬ c → wpS (model prog w) A E s y Q st) : wpS (model prog w) A E s (if c then x else y) Q st := by
  by_cases h : c
  · rw [if_pos h]; exact h1 h
  · rw [if_neg h]; exact h2 h
theorem wpS_gallopR (C : CmpOk prog w A s κ S key) {k₀ : Keyed} {arr : Array Keyed} {base n hint : Nat} {st : SortSt} {Q : Option Nat → SortSt → Prop} (hκ : kindOf st = κ) (hk : S k₀) (hS : ∀ x ∈ arr.toList, S x) (hl : ((arr.toList.drop base).take n).Pairwise (LE key))
    (hn : base + n ≤ arr.size) (hh : hint < n)
    (h : ∀ r, r ≤ n → (∀ x ∈ (arr.toList.drop base).take r, LE key x k₀) → (∀ x ∈ ((arr.toList.drop base).take n).drop r, llt (key k₀) (key x) = true) → Q (some r) st) : wpS (model prog w) A E s (gallop' false k₀ arr base n hint) Q st := by
  have at' : ∀ i, i < n → ((arr.toList.drop base).take n)[i]? = arr[base + i]? := fun i hi => by
    rw [List.getElem?_take_of_lt hi, List.getElem?_drop, Array.getElem?_toList]
  refine wpS_gallop C hκ hk (fun i hi x e => hS x (by simpa using Array.mem_of_getElem? e)) hn hh (fun i => !llt (key k₀) ((arr[base + i]?.map key).getD [])) (fun i hi x e => by rw [e]; rfl) (fun i j hij hj hb => ?_) fun r hr h1 h2 => h r hr (fun x hx => ?_) fun x hx => ?_
  · have ei : arr[base + i]? = some arr[base + i] := getElem?_pos _ _ (by (first | exact ar120 hn hij hj | lia))
    have ej : arr[base + j]? = some arr[base + j] := getElem?_pos _ _ (by (first | exact ar2 hn hj | lia))
    have hle : LE key arr[base + i] arr[base + j] := by
      by_cases e : i = j
      · subst e; exact lle_refl _
      · have hlen : ((arr.toList.drop base).take n).length = n := by simp; (first | exact ar102 hn | lia)
        have := List.pairwise_iff_getElem.mp hl i j (by (first | exact ar117 hij hj hlen | lia)) (by (first | exact ar104 hj hlen | lia)) (by (first | exact ar34 hij e | lia))
        simpa using this
    simp only [ei, ej, Option.map_some, Option.getD_some, Bool.not_eq_true'] at hb ⊢
    exact lle_trans hle hb
  · obtain ⟨i, hi⟩ := List.mem_iff_getElem?.mp hx
    have hir : i < r := by
      have := (List.getElem?_eq_some_iff.mp hi).1
      simp at this; (first | exact ar115 this | lia)
    rw [List.getElem?_take_of_lt hir, List.getElem?_drop, Array.getElem?_toList] at hi
    have := h1 i hir
    simp only [hi, Option.map_some, Option.getD_some, Bool.not_eq_true'] at this
    exact this
  · obtain ⟨i, hi⟩ := List.mem_iff_getElem?.mp hx
    rw [List.getElem?_drop] at hi
    have hir : r + i < n := by
      have := (List.getElem?_eq_some_iff.mp hi).1
      simp at this; (first | exact ar119 this | lia)
    rw [at' _ hir] at hi
    have := h2 (r + i) (by (first | exact ar12 | lia)) hir
    simp only [hi, Option.map_some, Option.getD_some, Bool.not_eq_false'] at this
    exact this
theorem wpS_gallopL (C : CmpOk prog w A s κ S key) {k₀ : Keyed} {arr : Array Keyed} {base n hint : Nat} {st : SortSt} {Q : Option Nat → SortSt → Prop} (hκ : kindOf st = κ) (hk : S k₀) (hS : ∀ x ∈ arr.toList, S x) (hl : ((arr.toList.drop base).take n).Pairwise (LE key))
    (hn : base + n ≤ arr.size) (hh : hint < n)
    (h : ∀ r, r ≤ n → (∀ x ∈ (arr.toList.drop base).take r, llt (key x) (key k₀) = true) → (∀ x ∈ ((arr.toList.drop base).take n).drop r, LE key k₀ x) → Q (some r) st) : wpS (model prog w) A E s (gallop' true k₀ arr base n hint) Q st := by
  have at' : ∀ i, i < n → ((arr.toList.drop base).take n)[i]? = arr[base + i]? := fun i hi => by
    rw [List.getElem?_take_of_lt hi, List.getElem?_drop, Array.getElem?_toList]
  refine wpS_gallop C hκ hk (fun i hi x e => hS x (by simpa using Array.mem_of_getElem? e)) hn hh (fun i => llt ((arr[base + i]?.map key).getD []) (key k₀)) (fun i hi x e => by rw [e]; rfl) (fun i j hij hj hb => ?_) fun r hr h1 h2 => h r hr (fun x hx => ?_) fun x hx => ?_
  · have ei : arr[base + i]? = some arr[base + i] := getElem?_pos _ _ (by (first | exact ar120 hn hij hj | lia))
    have ej : arr[base + j]? = some arr[base + j] := getElem?_pos _ _ (by (first | exact ar2 hn hj | lia))
    have hle : LE key arr[base + i] arr[base + j] := by
      by_cases e : i = j
      · subst e; exact lle_refl _
      · have hlen : ((arr.toList.drop base).take n).length = n := by simp; (first | exact ar102 hn | lia)
        have := List.pairwise_iff_getElem.mp hl i j (by (first | exact ar117 hij hj hlen | lia)) (by (first | exact ar104 hj hlen | lia)) (by (first | exact ar34 hij e | lia))
        simpa using this
    simp only [ei, ej, Option.map_some, Option.getD_some] at hb ⊢
    exact lle_llt hle hb
  · obtain ⟨i, hi⟩ := List.mem_iff_getElem?.mp hx
    have hir : i < r := by
      have := (List.getElem?_eq_some_iff.mp hi).1
      simp at this; (first | exact ar115 this | lia)
    rw [List.getElem?_take_of_lt hir, List.getElem?_drop, Array.getElem?_toList] at hi
    have := h1 i hir
    simp only [hi, Option.map_some, Option.getD_some] at this
    exact this
  · obtain ⟨i, hi⟩ := List.mem_iff_getElem?.mp hx
    rw [List.getElem?_drop] at hi
    have hir : r + i < n := by
      have := (List.getElem?_eq_some_iff.mp hi).1
      simp at this; (first | exact ar119 this | lia)
    rw [at' _ hir] at hi
    have := h2 (r + i) (by (first | exact ar12 | lia)) hir
    simp only [hi, Option.map_some, Option.getD_some] at this
    exact this
theorem ext_end {a : Array Keyed} {i : Nat} : (a.extract i a.size).toList = a.toList.drop i := by simp [List.take_of_length_le]
theorem ext_some {a : Array Keyed} {i k : Nat} : (a.extract i (i + k)).toList = (a.toList.drop i).take k := by simp
noncomputable abbrev LoC := Option (Array Keyed) × Array Keyed × Nat × Nat × Nat × Nat × Nat
noncomputable def lo3 (a b out : Array Keyed) (ia ib mg ac bc : Nat) : StateT SortSt Sem (ForInStep LoC) := do
  let x ← elem' a ia
  if ia + 1 + 1 == a.size then return .done (some (out.push x ++ b.extract ib b.size ++ a.extract (ia + 1) a.size), out.push x, ia + 1, ib, mg, ac, bc)
  if ac < 7 && bc < 7 then return .done (none, out.push x, ia + 1, ib, mg, ac, bc)
  return .yield (none, out.push x, ia + 1, ib, mg, ac, bc)
noncomputable def lo2 (a b out : Array Keyed) (ia ib mg ac bc : Nat) : StateT SortSt Sem (ForInStep LoC) := do
  let x ← elem' b ib
  if ib + 1 == b.size then return .done (some (out.push x ++ a.extract ia a.size ++ b.extract (ib + 1) b.size), out.push x, ia, ib + 1, mg, ac, bc)
  let y ← elem' a ia
  let some k ← gallop' true y b (ib + 1) (b.size - (ib + 1)) 0 | return .done (some (out.push x ++ a.extract ia a.size ++ b.extract (ib + 1) b.size), out.push x, ia, ib + 1, mg, ac, bc)
  if k > 0 then
    if ib + 1 + k == b.size then return .done (some (out.push x ++ b.extract (ib + 1) (ib + 1 + k) ++ a.extract ia a.size ++ b.extract (ib + 1 + k) b.size), out.push x ++ b.extract (ib + 1) (ib + 1 + k), ia, ib + 1 + k, mg, ac, k)
    lo3 a b (out.push x ++ b.extract (ib + 1) (ib + 1 + k)) ia (ib + 1 + k) mg ac k
  else lo3 a b (out.push x) ia (ib + 1) mg ac k
noncomputable def lo1 (a b out : Array Keyed) (ia ib mg ac bc : Nat) : StateT SortSt Sem (ForInStep LoC) := do
  setMinGallop' mg
  let x ← elem' b ib
  let some k ← gallop' false x a ia (a.size - ia) 0 | return .done (some (out ++ a.extract ia a.size ++ b.extract ib b.size), out, ia, ib, mg, ac, bc)
  if k > 0 then
    if ia + k + 1 == a.size then return .done (some (out ++ a.extract ia (ia + k) ++ b.extract ib b.size ++ a.extract (ia + k) a.size), out ++ a.extract ia (ia + k), ia + k, ib, mg, k, bc)
    if ia + k == a.size then return .done (some (out ++ a.extract ia (ia + k) ++ a.extract (ia + k) a.size ++ b.extract ib b.size), out ++ a.extract ia (ia + k), ia + k, ib, mg, k, bc)
    lo2 a b (out ++ a.extract ia (ia + k)) (ia + k) ib mg k bc
  else lo2 a b out ia ib mg k bc
noncomputable def lo0 (a b out : Array Keyed) (ia ib mg ac bc : Nat) : StateT SortSt Sem (ForInStep LoC) := if mg > 1 then lo1 a b out ia ib (mg - 1) ac bc else lo1 a b out ia ib mg ac bc
noncomputable abbrev LoB := Option (Array Keyed) × Array Keyed × Nat × Nat × Nat × Nat
noncomputable abbrev LoA := Option (Array Keyed) × Array Keyed × Nat × Nat × Nat
noncomputable def loI (a b : Array Keyed) (mg : Nat) (out : Array Keyed) (ia ib ac bc : Nat) : StateT SortSt Sem (ForInStep LoB) := do
  let y ← elem' b ib
  let x ← elem' a ia
  let some bWins ← lt' y x | return .done (some (out ++ a.extract ia a.size ++ b.extract ib b.size), out, ia, ib, ac, bc)
  if bWins then
    let z ← elem' b ib
    if ib + 1 == b.size then return .done (some (out.push z ++ a.extract ia a.size ++ b.extract (ib + 1) b.size), out.push z, ia, ib + 1, 0, bc + 1)
    if bc + 1 ≥ mg then return .done (none, out.push z, ia, ib + 1, 0, bc + 1)
    return .yield (none, out.push z, ia, ib + 1, 0, bc + 1)
  else
    let z ← elem' a ia
    if ia + 1 + 1 == a.size then return .done (some (out.push z ++ b.extract ib b.size ++ a.extract (ia + 1) a.size), out.push z, ia + 1, ib, ac + 1, 0)
    if ac + 1 ≥ mg then return .done (none, out.push z, ia + 1, ib, ac + 1, 0)
    return .yield (none, out.push z, ia + 1, ib, ac + 1, 0)
noncomputable def loRest (a b out : Array Keyed) (ia ib mg ac bc : Nat) : StateT SortSt Sem (ForInStep LoA) := do
  rule "list.sort.gallop"
  let c ← forIn [:a.size + b.size] ((none, out, ia, ib, mg + 1, ac, bc) : LoC) (fun _ c => lo0 a b c.2.1 c.2.2.1 c.2.2.2.1 c.2.2.2.2.1 c.2.2.2.2.2.1 c.2.2.2.2.2.2)
  match c.1 with
  | some r => return .done (some r, c.2.1, c.2.2.1, c.2.2.2.1, c.2.2.2.2.1)
  | none =>
    setMinGallop' (c.2.2.2.2.1 + 1)
    return .yield (none, c.2.1, c.2.2.1, c.2.2.2.1, c.2.2.2.2.1 + 1)
noncomputable def loStep (a b out : Array Keyed) (ia ib mg : Nat) : StateT SortSt Sem (ForInStep LoA) := do
  let c ← forIn [:a.size + b.size] ((none, out, ia, ib, 0, 0) : LoB) (fun _ c => loI a b mg c.2.1 c.2.2.1 c.2.2.2.1 c.2.2.2.2.1 c.2.2.2.2.2)
  match c.1 with
  | some r => return .done (some r, c.2.1, c.2.2.1, c.2.2.2.1, mg)
  | none => loRest a b c.2.1 c.2.2.1 c.2.2.2.1 mg c.2.2.2.2.1 c.2.2.2.2.2
theorem mergeLo'_eq (a b : Array Keyed) : mergeLo' a b = (do
  rule "list.sort.merge-lo"
  let x ← elem' b 0
  if 1 == b.size then return #[x] ++ a.extract 0 a.size ++ b.extract 1 b.size
  if 0 + 1 == a.size then return #[x] ++ b.extract 1 b.size ++ a.extract 0 a.size
  let st ← get
  let c ← forIn [:a.size + b.size] ((none, #[x], 0, 1, gallopOf st) : LoA) (fun _ c => loStep a b c.2.1 c.2.2.1 c.2.2.2.1 c.2.2.2.2)
  match c.1 with
  | some r => return r
  | none => unsupported "internal:list.sort.merge-bound") := by kernel_rfl
/-- what a merge from below stands on -/
structure LoM (prog : Program) (w : World) (A : Around) (s : Shared) (κ : SortKind) (S : Keyed → Prop) (key : Keyed → List Int) (a b : Array Keyed) : Prop where
  C : CmpOk prog w A s κ S key
  Sa : ∀ x ∈ a.toList, S x
  Sb : ∀ x ∈ b.toList, S x
  hA : a.toList.Pairwise (LE key)
  hB : b.toList.Pairwise (LE key)
  last : ∀ y ∈ b.toList, ∀ x ∈ a.toList.drop (a.size - 1), LE key y x
section
variable {a b out : Array Keyed} {ia ib : Nat} (M : LoM prog w A s κ S key a b)
include M
theorem LoM.atA (hi : ia < a.size) : S a[ia] := M.Sa _ (Array.getElem_mem_toList hi)
theorem LoM.atB (hi : ib < b.size) : S b[ib] := M.Sb _ (Array.getElem_mem_toList hi)
theorem LoM.endB (hI : MInv key a.toList b.toList out.toList ia ib) (e : ib = b.size) : Merged key a.toList b.toList (out ++ a.extract ia a.size ++ b.extract ib b.size).toList := by
  rw [Array.toList_append, Array.toList_append, ext_end, ext_end]
  exact hI.done M.hA M.hB fun x _ y hy => by rw [e, List.drop_of_length_le (by simp)] at hy; cases hy
theorem LoM.endA (hI : MInv key a.toList b.toList out.toList ia ib) (e : ia + 1 = a.size) : Merged key a.toList b.toList (out ++ b.extract ib b.size ++ a.extract ia a.size).toList := by
  rw [Array.toList_append, Array.toList_append, ext_end, ext_end]
  exact hI.last M.hA M.hB fun x hx y hy => M.last x (List.mem_of_mem_drop hx) y (by rw [show a.size - 1 = ia by rw [← e]; rfl]; exact hy)
theorem LoM.endA2 (hI : MInv key a.toList b.toList out.toList ia ib) (e : ia = a.size) : Merged key a.toList b.toList (out ++ a.extract ia a.size ++ b.extract ib b.size).toList := by
  rw [Array.toList_append, Array.toList_append, ext_end, ext_end]
  exact hI.done M.hA M.hB fun x hx => by rw [e, List.drop_of_length_le (by simp)] at hx; cases hx
theorem LoM.putB (hI : MInv key a.toList b.toList out.toList ia ib) (hib : ib < b.size) (h : ∀ z ∈ a.toList.drop ia, LE key b[ib] z) : MInv key a.toList b.toList (out.push b[ib]).toList ia (ib + 1) := by
  rw [Array.toList_push]
  exact hI.pushB M.hB hib h
theorem LoM.putA (hI : MInv key a.toList b.toList out.toList ia ib) (hia : ia < a.size) (h : ∀ z ∈ b.toList.drop ib, LE key a[ia] z) : MInv key a.toList b.toList (out.push a[ia]).toList (ia + 1) ib := by
  rw [Array.toList_push]
  exact hI.pushA M.hA hia h
end
/-- what the gallop's loop is to reach -/
structure LoE (key : Keyed → List Int) (a b : Array Keyed) (st : SortSt) (n : Nat) (R : ForInStep LoC → SortSt → Prop) : Prop where
  fin : ∀ r out ia ib mg ac bc, Merged key a.toList b.toList r.toList → R (.done (some r, out, ia, ib, mg, ac, bc)) st
  brk : ∀ out ia ib mg ac bc, MInv key a.toList b.toList out.toList ia ib → ia + 1 < a.size → ib < b.size → n < ia + ib → R (.done (none, out, ia, ib, mg, ac, bc)) st
  go : ∀ out ia ib mg ac bc, MInv key a.toList b.toList out.toList ia ib → ia + 1 < a.size → ib < b.size → n < ia + ib → R (.yield (none, out, ia, ib, mg, ac, bc)) st
section
variable {a b out : Array Keyed} {ia ib mg ac bc n : Nat} {st : SortSt} {R : ForInStep LoC → SortSt → Prop} (M : LoM prog w A s κ S key a b) (N : LoE key a b st n R)
include M N
theorem wpS_lo3 (hI : MInv key a.toList b.toList out.toList ia ib) (hia : ia + 1 < a.size) (hib : ib < b.size) (hle : ∀ z ∈ b.toList.drop ib, LE key (a[ia]'(Nat.lt_of_succ_lt hia)) z) (hn : n ≤ ia + ib) : wpS (model prog w) A E s (lo3 a b out ia ib mg ac bc) R st := by
  refine wpS_bind (wpS_elem (Nat.lt_of_succ_lt hia) ?_)
  have hI4 := M.putA hI (Nat.lt_of_succ_lt hia) hle
  by_cases e5 : ia + 1 + 1 = a.size
  · rw [if_pos (beq_iff_eq.mpr e5)]
    exact wpS_pure (N.fin _ _ _ _ _ _ _ (M.endA hI4 e5))
  rw [if_neg (fun q => e5 (beq_iff_eq.mp q))]
  have h5 : ia + 1 + 1 < a.size := Nat.lt_of_le_of_ne hia e5
  have h6 : n < ia + 1 + ib := by rw [Nat.add_right_comm]; exact Nat.lt_succ_of_le hn
  exact wpS_ite (fun _ => wpS_pure (N.brk _ _ _ _ _ _ hI4 h5 hib h6)) fun _ => wpS_pure (N.go _ _ _ _ _ _ hI4 h5 hib h6)
theorem wpS_lo2 (hκ : kindOf st = κ) (hI : MInv key a.toList b.toList out.toList ia ib) (hia : ia + 1 < a.size) (hib : ib < b.size) (hle : ∀ z ∈ a.toList.drop ia, llt (key b[ib]) (key z) = true) (hn : n ≤ ia + ib) : wpS (model prog w) A E s (lo2 a b out ia ib mg ac bc) R st := by
  refine wpS_bind (wpS_elem hib ?_)
  have hI2 := M.putB hI hib (fun z hz => lle_of_llt (hle z hz))
  by_cases e3 : ib + 1 = b.size
  · rw [if_pos (beq_iff_eq.mpr e3)]
    exact wpS_pure (N.fin _ _ _ _ _ _ _ (M.endB hI2 e3))
  rw [if_neg (fun q => e3 (beq_iff_eq.mp q))]
  have hib1 : ib + 1 < b.size := Nat.lt_of_le_of_ne hib e3
  refine wpS_bind (wpS_elem (Nat.lt_of_succ_lt hia) ?_)
  refine wpS_bind (wpS_gallopL M.C hκ (M.atA _) M.Sb (by rw [List.take_of_length_le (by simp)]; exact M.hB.sublist (List.drop_sublist _ _)) (Nat.le_of_eq (Nat.add_sub_cancel' hib)) (Nat.sub_pos_of_lt hib1) fun k1 hk1' h3 h4 => ?_)
  rw [List.take_of_length_le (by simp), List.drop_drop] at h4
  refine wpS_ite (fun hk1 => ?_) fun hk1 => ?_
  · have hI3 := hI2.appB M.hB (k := k1) (fun x hx y hy => LE.trans (lle_of_llt (h3 x hx)) (le_drop M.hA (Nat.lt_of_succ_lt hia) y hy))
    rw [← ext_some, ← Array.toList_append] at hI3
    by_cases e4 : ib + 1 + k1 = b.size
    · rw [if_pos (beq_iff_eq.mpr e4)]
      exact wpS_pure (N.fin _ _ _ _ _ _ _ (M.endB hI3 e4))
    rw [if_neg (fun q => e4 (beq_iff_eq.mp q))]
    exact wpS_lo3 M N hI3 hia (by lia) h4 (by (first | exact ar418 hn | lia))
  · obtain rfl : k1 = 0 := Nat.eq_zero_of_not_pos hk1
    exact wpS_lo3 M N hI2 hia hib1 h4 (Nat.le_succ_of_le hn)
end
theorem wpS_lo1 {a b out : Array Keyed} {ia ib mg ac bc n : Nat} {st : SortSt} {R : ForInStep LoC → SortSt → Prop} (M : LoM prog w A s κ S key a b) (N : ∀ st', SameG st st' → LoE key a b st' n R) (hκ : kindOf st = κ) (hI : MInv key a.toList b.toList out.toList ia ib) (hia : ia + 1 < a.size) (hib : ib < b.size) (hn : n ≤ ia + ib) : wpS (model prog w) A E s (lo1 a b out ia ib mg ac bc) R st := by
  refine wpS_bind (wpS_setG fun st2 hG2 => ?_)
  replace N := N st2 hG2
  replace hκ := hG2.1.trans hκ
  refine wpS_bind (wpS_elem hib ?_)
  refine wpS_bind (wpS_gallopR M.C hκ (M.atB _) M.Sa (by rw [List.take_of_length_le (by simp)]; exact M.hA.sublist (List.drop_sublist _ _)) (Nat.le_of_eq (Nat.add_sub_cancel' (by (first | exact ar267 hia | lia)))) (by (first | exact ar265 hia | lia)) fun k hk hk1 hk2 => ?_)
  rw [List.take_of_length_le (by simp), List.drop_drop] at hk2
  refine wpS_ite (fun hk0 => ?_) fun hk0 => ?_
  · have hI1 : MInv key a.toList b.toList (out ++ a.extract ia (ia + k)).toList (ia + k) ib := by
      rw [Array.toList_append, ext_some]
      exact hI.appA M.hA fun x hx y hy => LE.trans (hk1 x hx) (le_drop M.hB hib y hy)
    by_cases e1 : ia + k + 1 = a.size
    · rw [if_pos (beq_iff_eq.mpr e1)]
      exact wpS_pure (N.fin _ _ _ _ _ _ _ (M.endA hI1 e1))
    rw [if_neg (fun q => e1 (beq_iff_eq.mp q))]
    by_cases e2 : ia + k = a.size
    · rw [if_pos (beq_iff_eq.mpr e2)]
      exact wpS_pure (N.fin _ _ _ _ _ _ _ (M.endA2 hI1 e2))
    rw [if_neg (fun q => e2 (beq_iff_eq.mp q))]
    exact wpS_lo2 M N hκ hI1 (by lia) hib hk2 (by (first | exact ar419 hn | lia))
  · obtain rfl : k = 0 := Nat.eq_zero_of_not_pos hk0
    exact wpS_lo2 M N hκ hI hia hib hk2 hn
theorem wpS_lo0 {a b out : Array Keyed} {ia ib mg ac bc n : Nat} {st : SortSt} {R : ForInStep LoC → SortSt → Prop} (M : LoM prog w A s κ S key a b) (N : ∀ st', SameG st st' → LoE key a b st' n R) (hκ : kindOf st = κ) (hI : MInv key a.toList b.toList out.toList ia ib) (hia : ia + 1 < a.size) (hib : ib < b.size) (hn : n ≤ ia + ib) : wpS (model prog w) A E s (lo0 a b out ia ib mg ac bc) R st :=
  wpS_ite (fun _ => wpS_lo1 M N hκ hI hia hib hn) fun _ => wpS_lo1 M N hκ hI hia hib hn
/-- how far a merge from below stands -/
structure LoJ (key : Keyed → List Int) (a b out : Array Keyed) (ia ib : Nat) : Prop where
  I : MInv key a.toList b.toList out.toList ia ib
  ha : ia + 1 < a.size
  hb : ib < b.size
theorem wpS_loRest {a b out : Array Keyed} {ia ib mg ac bc n : Nat} {st : SortSt} {R : ForInStep LoA → SortSt → Prop} (M : LoM prog w A s κ S key a b) (hκ : kindOf st = κ) (J : LoJ key a b out ia ib) (hn : n ≤ ia + ib)
    (fin : ∀ r out ia ib mg st', SameG st st' → Merged key a.toList b.toList r.toList → R (.done (some r, out, ia, ib, mg)) st')
    (go : ∀ out ia ib mg st', SameG st st' → LoJ key a b out ia ib → n ≤ ia + ib → R (.yield (none, out, ia, ib, mg)) st') : wpS (model prog w) A E s (loRest a b out ia ib mg ac bc) R st := by
  refine wpS_bind (wpS_lift (wpAny_rule ⟨rfl, ?_⟩))
  refine wpS_bind (wpS_mono (wpS_forRange
    (I := fun y c st' => SameG st st' ∧ ∃ out ia ib mg ac bc, c = (none, out, ia, ib, mg, ac, bc) ∧ LoJ key a b out ia ib ∧ n + y ≤ ia + ib)
    (Q := fun c st' => SameG st st' ∧ ((∃ r, c.1 = some r ∧ Merged key a.toList b.toList r.toList) ∨ ∃ out ia ib mg ac bc, c = (none, out, ia, ib, mg, ac, bc) ∧ LoJ key a b out ia ib ∧ n ≤ ia + ib)) ?gstep ?gfin ⟨.refl _, out, ia, ib, _, _, _, rfl, J, hn⟩) ?gpost)
  case gfin =>
    intro c st' hp2_
    refine Mine.byv fun P_ kP_ => ?_
    obtain ⟨hG, out, ia, ib, mg, ac, bc, rfl, J, hp⟩ := hp2_
    refine kP_ ?_
    clear kP_ P_
    have := J.ha
    have := J.hb
    lia
  case gpost =>
    intro hp0_ st' hp2_
    obtain ⟨c1, c2⟩ := hp0_
    obtain ⟨hG, (⟨r, e, hM⟩ | ⟨out, ia', ib', mg, ac, bc, e, J, hp'⟩)⟩ := hp2_
    · cases e
      exact wpS_pure (fin r _ _ _ _ _ hG hM)
    · cases e
      exact wpS_bind (wpS_setG fun st2 hG2 => wpS_pure (go _ _ _ _ _ (hG.trans hG2) J hp'))
  case gstep =>
    intro y c st' _ hy hp5_
    refine Mine.byv fun P_ kP_ => ?_
    obtain ⟨hG, out, ia', ib', mg, ac, bc, rfl, J, hp'⟩ := hp5_
    refine kP_ ?_
    clear kP_ P_
    exact wpS_lo0 M (n := n + y) (fun st2 hG2 => ⟨fun r out ia ib mg ac bc hM => ⟨hG.trans hG2, .inl ⟨_, rfl, hM⟩⟩, fun out ia2 ib2 mg ac bc hI h1 h2 h3 => ⟨hG.trans hG2, .inr ⟨_, _, _, _, _, _, rfl, ⟨hI, h1, h2⟩, Nat.le_of_lt (Nat.lt_of_le_of_lt (Nat.le_add_right _ y) h3)⟩⟩, fun out ia2 ib2 mg ac bc hI h1 h2 h3 => ⟨hG.trans hG2, _, _, _, _, _, _, rfl, ⟨hI, h1, h2⟩, h3⟩⟩) (hG.1.trans hκ) J.I J.ha J.hb hp'
theorem wpS_loStep {a b out : Array Keyed} {ia ib mg : Nat} {st : SortSt} {R : ForInStep LoA → SortSt → Prop} (M : LoM prog w A s κ S key a b) (hκ : kindOf st = κ) (J : LoJ key a b out ia ib)
    (fin : ∀ r out ia ib mg st', SameG st st' → Merged key a.toList b.toList r.toList → R (.done (some r, out, ia, ib, mg)) st')
    (go : ∀ out' ia' ib' mg st', SameG st st' → LoJ key a b out' ia' ib' → ia + ib + 1 ≤ ia' + ib' → R (.yield (none, out', ia', ib', mg)) st') : wpS (model prog w) A E s (loStep a b out ia ib mg) R st := by
  refine wpS_bind (wpS_mono (wpS_forRange
    (I := fun y c st' => SameG st st' ∧ ∃ out ia' ib' ac bc, c = (none, out, ia', ib', ac, bc) ∧ LoJ key a b out ia' ib' ∧ ia + ib + y ≤ ia' + ib')
    (Q := fun c st' => SameG st st' ∧ ((∃ r, c.1 = some r ∧ Merged key a.toList b.toList r.toList) ∨ ∃ out ia' ib' ac bc, c = (none, out, ia', ib', ac, bc) ∧ LoJ key a b out ia' ib' ∧ ia + ib + 1 ≤ ia' + ib')) ?istep ?ifin ⟨.refl _, out, ia, ib, 0, 0, rfl, J, Nat.le_refl _⟩) ?ipost)
  case ifin =>
    intro c st' hp2_
    refine Mine.byv fun P_ kP_ => ?_
    obtain ⟨hG, out, ia, ib, ac, bc, rfl, J, hp⟩ := hp2_
    refine kP_ ?_
    clear kP_ P_
    have := J.ha
    have := J.hb
    lia
  case ipost =>
    intro hp0_ st' hp2_
    obtain ⟨c1, c2⟩ := hp0_
    obtain ⟨hG, (⟨r, e, hM⟩ | ⟨out, ia', ib', ac, bc, e, J, hp'⟩)⟩ := hp2_
    · cases e
      exact wpS_pure (fin r _ _ _ _ _ hG hM)
    · cases e
      exact wpS_loRest M (hG.1.trans hκ) J hp' (fun r out ia ib mg st2 g2 => fin r out ia ib mg st2 (hG.trans g2)) fun out ia ib mg st2 g2 => go out ia ib mg st2 (hG.trans g2)
  case istep =>
    intro y c st' _ hy hp5_
    refine Mine.byv fun P_ kP_ => ?_
    obtain ⟨hG, out, ia', ib', ac, bc, rfl, J, hp'⟩ := hp5_
    refine kP_ ?_
    clear kP_ P_
    have hia : ia' < a.size := Nat.lt_of_succ_lt J.ha
    refine wpS_bind (wpS_elem J.hb (wpS_bind (wpS_elem hia (wpS_bind (M.C.lt _ _ (M.atB J.hb) (M.atA hia) _ _ _ (hG.1.trans hκ) ?_)))))
    dsimp only
    cases hlt : llt (key (b[ib']'J.hb)) (key (a[ia']'hia)) with
    | true =>
      rw [if_pos rfl]
      refine wpS_bind (wpS_elem J.hb ?_)
      have hI' := M.putB J.I J.hb fun z hz => LE.trans (lle_of_llt hlt) (le_drop M.hA hia z hz)
      by_cases e : ib' + 1 = b.size
      · rw [if_pos (beq_iff_eq.mpr e)]
        exact wpS_pure ⟨hG, .inl ⟨_, rfl, M.endB hI' e⟩⟩
      rw [if_neg (fun q => e (beq_iff_eq.mp q))]
      have J4 : LoJ key a b _ ia' (ib' + 1) := ⟨hI', J.ha, Nat.lt_of_le_of_ne J.hb e⟩
      have h8 : ia + ib + (y + 1) ≤ ia' + (ib' + 1) := Nat.succ_le_succ hp'
      exact wpS_ite (fun _ => wpS_pure ⟨hG, .inr ⟨_, _, _, _, _, rfl, J4, Nat.le_trans (Nat.succ_le_succ (Nat.le_add_right _ y)) h8⟩⟩) fun _ => wpS_pure ⟨hG, _, _, _, _, _, rfl, J4, h8⟩
    | false =>
      rw [if_neg Bool.false_ne_true]
      refine wpS_bind (wpS_elem hia ?_)
      have hI' := M.putA J.I hia fun z hz => LE.trans (show lle _ _ from hlt) (le_drop M.hB J.hb z hz)
      by_cases e : ia' + 1 + 1 = a.size
      · rw [if_pos (beq_iff_eq.mpr e)]
        exact wpS_pure ⟨hG, .inl ⟨_, rfl, M.endA hI' e⟩⟩
      rw [if_neg (fun q => e (beq_iff_eq.mp q))]
      have J4 : LoJ key a b _ (ia' + 1) ib' := ⟨hI', Nat.lt_of_le_of_ne J.ha e, J.hb⟩
      have h8 : ia + ib + (y + 1) ≤ ia' + 1 + ib' := by rw [Nat.add_right_comm ia']; exact Nat.succ_le_succ hp'
      exact wpS_ite (fun _ => wpS_pure ⟨hG, .inr ⟨_, _, _, _, _, rfl, J4, Nat.le_trans (Nat.succ_le_succ (Nat.le_add_right _ y)) h8⟩⟩) fun _ => wpS_pure ⟨hG, _, _, _, _, _, rfl, J4, h8⟩
theorem wpS_mergeLo (C : CmpOk prog w A s κ S key) {a b : Array Keyed} {st : SortSt} {Q : Array Keyed → SortSt → Prop} (hκ : kindOf st = κ) (hSa : ∀ x ∈ a.toList, S x) (hSb : ∀ x ∈ b.toList, S x)
    (hA : a.toList.Pairwise (LE key)) (hB : b.toList.Pairwise (LE key)) (ha : 0 < a.size) (hb : 0 < b.size) (hfirst : ∀ x ∈ a.toList, LE key b[0] x) (hlast : ∀ y ∈ b.toList, ∀ x ∈ a.toList.drop (a.size - 1), LE key y x)
    (h : ∀ r st', SameG st st' → Merged key a.toList b.toList r.toList → Q r st') : wpS (model prog w) A E s (mergeLo' a b) Q st := by
  rw [mergeLo'_eq]
  have M : LoM prog w A s κ S key a b := ⟨C, hSa, hSb, hA, hB, hlast⟩
  refine wpS_bind (wpS_lift (wpAny_rule ⟨rfl, ?_⟩))
  refine wpS_bind (wpS_elem hb ?_)
  have hI0 : MInv key a.toList b.toList (#[b[0]] : Array Keyed).toList 0 1 := M.putB (out := #[]) MInv.nil hb hfirst
  by_cases h1 : 1 = b.size
  · rw [if_pos (beq_iff_eq.mpr h1)]
    exact wpS_pure (h _ _ (.refl _) (M.endB hI0 h1))
  rw [if_neg (fun q => h1 (beq_iff_eq.mp q))]
  by_cases h2 : 0 + 1 = a.size
  · rw [if_pos (beq_iff_eq.mpr h2)]
    exact wpS_pure (h _ _ (.refl _) (M.endA hI0 h2))
  rw [if_neg (fun q => h2 (beq_iff_eq.mp q))]
  refine wpS_bind (wpS_get ?_)
  refine wpS_bind (wpS_mono (wpS_forRange
    (I := fun x c st' => SameG st st' ∧ ∃ out ia ib mg, c = (none, out, ia, ib, mg) ∧ LoJ key a b out ia ib ∧ x + 1 ≤ ia + ib)
    (Q := fun c st' => SameG st st' ∧ ∃ r, c.1 = some r ∧ Merged key a.toList b.toList r.toList) ?step ?fin ⟨.refl _, _, 0, 1, _, rfl, ⟨hI0, Nat.lt_of_le_of_ne ha h2, Nat.lt_of_le_of_ne hb h1⟩, Nat.le_refl _⟩) ?post)
  case post =>
    intro hp0_ st' hp2_
    refine Mine.byv fun P_ kP_ => ?_
    obtain ⟨c1, c2⟩ := hp0_
    obtain ⟨hG, r, e, hM⟩ := hp2_
    refine kP_ ?_
    clear kP_ P_
    cases e
    exact wpS_pure (h r st' hG hM)
  case fin =>
    intro c st' hp2_
    refine Mine.byv fun P_ kP_ => ?_
    obtain ⟨hG, out, ia, ib, mg, rfl, J, hp⟩ := hp2_
    refine kP_ ?_
    clear kP_ P_
    have := J.ha
    have := J.hb
    lia
  case step =>
    intro x c st' _ hx hp5_
    refine Mine.byv fun P_ kP_ => ?_
    obtain ⟨hG, out, ia, ib, mg, rfl, J, hp⟩ := hp5_
    refine kP_ ?_
    clear kP_ P_
    exact wpS_loStep M (hG.1.trans hκ) J (fun r out ia ib mg st2 g2 hM => ⟨hG.trans g2, r, rfl, hM⟩) fun out' ia' ib' mg st2 g2 J' h8 => ⟨hG.trans g2, _, _, _, _, rfl, J', Nat.le_trans (Nat.succ_le_succ hp) h8⟩
end
/-- a merge under way, from above: out holds what is placed, the greatest first -/
structure HInv (key : Keyed → List Int) (a b out : List Keyed) (na nb : Nat) : Prop where
  perm : out.Perm (a.drop na ++ b.drop nb)
  sorted : out.Pairwise (fun x y => LE key y x)
  ha : ∀ x ∈ out, ∀ y ∈ a.take na, LE key y x
  hb : ∀ x ∈ out, ∀ y ∈ b.take nb, LE key y x
section
variable {key : Keyed → List Int} {a b out : List Keyed} {na nb : Nat}
theorem HInv.swap (h : HInv key a b out na nb) : HInv key b a out nb na := ⟨h.perm.trans List.perm_append_comm, h.sorted, h.hb, h.ha⟩
theorem HInv.nil : HInv key a b [] a.length b.length := ⟨by simp, .nil, by simp, by simp⟩
theorem HInv.appA (h : HInv key a b out na nb) (hA : a.Pairwise (LE key)) {t : Nat} (ht : t ≤ na) (hna : na ≤ a.length) (hx : ∀ x ∈ (a.take na).drop t, ∀ y ∈ b.take nb, LE key y x) : HInv key a b (out ++ ((a.take na).drop t).reverse) t nb := by
  have e1 : a.drop t = (a.take na).drop t ++ a.drop na := by
    conv => lhs; rw [← List.take_append_drop na a]
    rw [List.drop_append_of_le_length (by rw [List.length_take]; (first | exact ar390 ht hna | lia))]
  have e2 : a.take na = a.take t ++ (a.take na).drop t := by
    conv => lhs; rw [← List.take_append_drop t (a.take na)]
    rw [List.take_take, Nat.min_eq_left ht]
  have hA' : (a.take na).Pairwise (LE key) := hA.sublist (List.take_sublist _ _)
  rw [e2, List.pairwise_append] at hA'
  refine ⟨?_, List.pairwise_append.mpr ⟨h.sorted, List.pairwise_reverse.mpr hA'.2.1, fun x hx y hy => ?_⟩, fun x hx' y hy => ?_, fun x hx' y hy => ?_⟩
  · rw [e1]
    refine (List.Perm.append h.perm (List.reverse_perm _)).trans ?_
    refine List.perm_append_comm.trans ?_
    rw [List.append_assoc]
  · exact h.ha x hx y (List.mem_of_mem_drop (List.mem_reverse.mp hy))
  · rcases List.mem_append.mp hx' with hx' | hx'
    · exact h.ha x hx' y (by rw [e2]; exact List.mem_append_left _ hy)
    · exact hA'.2.2 y hy x (List.mem_reverse.mp hx')
  · rcases List.mem_append.mp hx' with hx' | hx'
    · exact h.hb x hx' y hy
    · exact hx x (List.mem_reverse.mp hx') y hy
theorem HInv.appB (h : HInv key a b out na nb) (hB : b.Pairwise (LE key)) {t : Nat} (ht : t ≤ nb) (hnb : nb ≤ b.length) (hx : ∀ x ∈ (b.take nb).drop t, ∀ y ∈ a.take na, LE key y x) : HInv key a b (out ++ ((b.take nb).drop t).reverse) na t := (h.swap.appA hB ht hnb hx).swap
theorem take_drop_one {l : List Keyed} {i : Nat} (h0 : 0 < i) (hi : i ≤ l.length) : (l.take i).drop (i - 1) = [l[i - 1]] := by
  have hlen : (l.take i).length = i := by rw [List.length_take]; (first | exact ar91 hi | lia)
  rw [List.drop_eq_getElem_cons (by (first | exact ar260 h0 hlen | lia)), List.drop_of_length_le (by (first | exact ar301 hlen | lia)), List.getElem_take]
theorem HInv.pushA (h : HInv key a b out na nb) (hA : a.Pairwise (LE key)) (h0 : 0 < na) (hna : na ≤ a.length) (hx : ∀ y ∈ b.take nb, LE key y a[na - 1]) : HInv key a b (out ++ [a[na - 1]]) (na - 1) nb := by
  have := h.appA hA (t := na - 1) (by (first | exact ar198 | lia)) hna (by rw [take_drop_one h0 hna]; intro x hx' y hy; rw [List.mem_singleton.mp hx']; exact hx y hy)
  rwa [take_drop_one h0 hna, List.reverse_singleton] at this
theorem HInv.pushB (h : HInv key a b out na nb) (hB : b.Pairwise (LE key)) (h0 : 0 < nb) (hnb : nb ≤ b.length) (hx : ∀ y ∈ a.take na, LE key y b[nb - 1]) : HInv key a b (out ++ [b[nb - 1]]) na (nb - 1) := (h.swap.pushA hB h0 hnb hx).swap
theorem HInv.done (h : HInv key a b out na nb) (hA : a.Pairwise (LE key)) (hB : b.Pairwise (LE key)) (hx : ∀ x ∈ a.take na, ∀ y ∈ b.take nb, LE key x y) : Merged key a b (a.take na ++ b.take nb ++ out.reverse) := by
  refine ⟨?_, List.pairwise_append.mpr ⟨List.pairwise_append.mpr ⟨hA.sublist (List.take_sublist _ _), hB.sublist (List.take_sublist _ _), hx⟩, List.pairwise_reverse.mpr h.sorted, fun x hx' y hy => ?_⟩⟩
  · refine (List.Perm.append_left _ ((List.reverse_perm _).trans h.perm)).trans ?_
    rw [List.append_assoc, ← List.append_assoc (b.take nb)]
    refine (List.Perm.append_left _ (List.Perm.append_right _ List.perm_append_comm)).trans ?_
    rw [List.append_assoc, List.take_append_drop, ← List.append_assoc, List.take_append_drop]
  · rcases List.mem_append.mp hx' with hx' | hx'
    · exact h.ha y (List.mem_reverse.mp hy) x hx'
    · exact h.hb y (List.mem_reverse.mp hy) x hx'
theorem HInv.first (h : HInv key a b out na nb) (hA : a.Pairwise (LE key)) (hB : b.Pairwise (LE key)) (hx : ∀ x ∈ b.take nb, ∀ y ∈ a.take na, LE key x y) : Merged key a b (b.take nb ++ a.take na ++ out.reverse) :=
  let ⟨p, q⟩ := h.swap.done hB hA hx
  ⟨p.trans List.perm_append_comm, q⟩
theorem take_le {l : List Keyed} (hl : l.Pairwise (LE key)) {i : Nat} (h0 : 0 < i) (hi : i ≤ l.length) : ∀ y ∈ l.take i, LE key y l[i - 1] := by
  intro y hy
  obtain ⟨j, hj⟩ := List.mem_iff_getElem?.mp hy
  have hji : j < i := by
    have := (List.getElem?_eq_some_iff.mp hj).1
    rw [List.length_take] at this; (first | exact ar105 this | lia)
  rw [List.getElem?_take_of_lt hji] at hj
  obtain ⟨hjl, e⟩ := List.getElem?_eq_some_iff.mp hj
  rw [← e]
  exact le_at hl (by (first | exact ar295 hji | lia)) (by (first | exact ar259 h0 hi | lia))
end
section
variable {prog : Program} {w : World} {A : Around} {E : Value → Shared → Prop} {s : Shared} {κ : SortKind} {S : Keyed → Prop} {key : Keyed → List Int}
noncomputable abbrev HiC := Option (Array Keyed) × Nat × Nat × Array Keyed × Nat × Nat × Nat
theorem ext_pre {a : Array Keyed} {i : Nat} : (a.extract 0 i).toList = a.toList.take i := by simp
theorem ext_rev {a : Array Keyed} {i k : Nat} : (a.extract i k).reverse.toList = ((a.toList.take k).drop i).reverse := by simp [List.drop_take]
noncomputable def hi3 (a b out : Array Keyed) (na nb mg ac bc : Nat) : StateT SortSt Sem (ForInStep HiC) := do
  let x ← elem' a (na - 1)
  if na - 1 == 0 then return .done (some (a.extract 0 (na - 1) ++ b.extract 0 nb ++ (out.push x).reverse), na - 1, nb, out.push x, mg, ac, bc)
  if ac < 7 && bc < 7 then return .done (none, na - 1, nb, out.push x, mg, ac, bc)
  return .yield (none, na - 1, nb, out.push x, mg, ac, bc)
noncomputable def hi2 (a b out : Array Keyed) (na nb mg ac bc : Nat) : StateT SortSt Sem (ForInStep HiC) := do
  let x ← elem' b (nb - 1)
  if nb - 1 == 1 then return .done (some (b.extract 0 (nb - 1) ++ a.extract 0 na ++ (out.push x).reverse), na, nb - 1, out.push x, mg, ac, bc)
  let y ← elem' a (na - 1)
  let some t ← gallop' true y b 0 (nb - 1) (nb - 1 - 1) | return .done (some (a.extract 0 na ++ b.extract 0 (nb - 1) ++ (out.push x).reverse), na, nb - 1, out.push x, mg, ac, bc)
  if nb - 1 - t > 0 then
    if t == 1 then return .done (some (b.extract 0 t ++ a.extract 0 na ++ (out.push x ++ (b.extract t (nb - 1)).reverse).reverse), na, t, out.push x ++ (b.extract t (nb - 1)).reverse, mg, ac, nb - 1 - t)
    if t == 0 then return .done (some (a.extract 0 na ++ b.extract 0 t ++ (out.push x ++ (b.extract t (nb - 1)).reverse).reverse), na, t, out.push x ++ (b.extract t (nb - 1)).reverse, mg, ac, nb - 1 - t)
    hi3 a b (out.push x ++ (b.extract t (nb - 1)).reverse) na t mg ac (nb - 1 - t)
  else hi3 a b (out.push x) na (nb - 1) mg ac (nb - 1 - t)
noncomputable def hi1 (a b out : Array Keyed) (na nb mg ac bc : Nat) : StateT SortSt Sem (ForInStep HiC) := do
  setMinGallop' mg
  let x ← elem' b (nb - 1)
  let some t ← gallop' false x a 0 na (na - 1) | return .done (some (a.extract 0 na ++ b.extract 0 nb ++ out.reverse), na, nb, out, mg, ac, bc)
  if na - t > 0 then
    if t == 0 then return .done (some (a.extract 0 t ++ b.extract 0 nb ++ (out ++ (a.extract t na).reverse).reverse), t, nb, out ++ (a.extract t na).reverse, mg, na - t, bc)
    hi2 a b (out ++ (a.extract t na).reverse) t nb mg (na - t) bc
  else hi2 a b out na nb mg (na - t) bc
noncomputable def hi0 (a b out : Array Keyed) (na nb mg ac bc : Nat) : StateT SortSt Sem (ForInStep HiC) := if mg > 1 then hi1 a b out na nb (mg - 1) ac bc else hi1 a b out na nb mg ac bc
noncomputable abbrev HiB := Option (Array Keyed) × Nat × Nat × Array Keyed × Nat × Nat
noncomputable abbrev HiA := Option (Array Keyed) × Nat × Nat × Array Keyed × Nat
noncomputable def hiI (a b : Array Keyed) (mg : Nat) (na nb : Nat) (out : Array Keyed) (ac bc : Nat) : StateT SortSt Sem (ForInStep HiB) := do
  let y ← elem' b (nb - 1)
  let x ← elem' a (na - 1)
  let some aWins ← lt' y x | return .done (some (a.extract 0 na ++ b.extract 0 nb ++ out.reverse), na, nb, out, ac, bc)
  if aWins then
    let z ← elem' a (na - 1)
    if na - 1 == 0 then return .done (some (a.extract 0 (na - 1) ++ b.extract 0 nb ++ (out.push z).reverse), na - 1, nb, out.push z, ac + 1, 0)
    if ac + 1 ≥ mg then return .done (none, na - 1, nb, out.push z, ac + 1, 0)
    return .yield (none, na - 1, nb, out.push z, ac + 1, 0)
  else
    let z ← elem' b (nb - 1)
    if nb - 1 == 1 then return .done (some (b.extract 0 (nb - 1) ++ a.extract 0 na ++ (out.push z).reverse), na, nb - 1, out.push z, 0, bc + 1)
    if bc + 1 ≥ mg then return .done (none, na, nb - 1, out.push z, 0, bc + 1)
    return .yield (none, na, nb - 1, out.push z, 0, bc + 1)
noncomputable def hiRest (a b out : Array Keyed) (na nb mg ac bc : Nat) : StateT SortSt Sem (ForInStep HiA) := do
  rule "list.sort.gallop"
  let c ← forIn [:a.size + b.size] ((none, na, nb, out, mg + 1, ac, bc) : HiC) (fun _ c => hi0 a b c.2.2.2.1 c.2.1 c.2.2.1 c.2.2.2.2.1 c.2.2.2.2.2.1 c.2.2.2.2.2.2)
  match c.1 with
  | some r => return .done (some r, c.2.1, c.2.2.1, c.2.2.2.1, c.2.2.2.2.1)
  | none =>
    setMinGallop' (c.2.2.2.2.1 + 1)
    return .yield (none, c.2.1, c.2.2.1, c.2.2.2.1, c.2.2.2.2.1 + 1)
noncomputable def hiStep (a b out : Array Keyed) (na nb mg : Nat) : StateT SortSt Sem (ForInStep HiA) := do
  let c ← forIn [:a.size + b.size] ((none, na, nb, out, 0, 0) : HiB) (fun _ c => hiI a b mg c.2.1 c.2.2.1 c.2.2.2.1 c.2.2.2.2.1 c.2.2.2.2.2)
  match c.1 with
  | some r => return .done (some r, c.2.1, c.2.2.1, c.2.2.2.1, mg)
  | none => hiRest a b c.2.2.2.1 c.2.1 c.2.2.1 mg c.2.2.2.2.1 c.2.2.2.2.2
theorem mergeHi'_eq (a b : Array Keyed) : mergeHi' a b = (do
  rule "list.sort.merge-hi"
  let x ← elem' a (a.size - 1)
  if a.size - 1 == 0 then return a.extract 0 (a.size - 1) ++ b.extract 0 b.size ++ #[x].reverse
  if b.size == 1 then return b.extract 0 b.size ++ a.extract 0 (a.size - 1) ++ #[x].reverse
  let st ← get
  let c ← forIn [:a.size + b.size] ((none, a.size - 1, b.size, #[x], gallopOf st) : HiA) (fun _ c => hiStep a b c.2.2.2.1 c.2.1 c.2.2.1 c.2.2.2.2)
  match c.1 with
  | some r => return r
  | none => unsupported "internal:list.sort.merge-bound") := by kernel_rfl
/-- what a merge from above stands on -/
structure HiM (prog : Program) (w : World) (A : Around) (s : Shared) (κ : SortKind) (S : Keyed → Prop) (key : Keyed → List Int) (a b : Array Keyed) : Prop where
  C : CmpOk prog w A s κ S key
  Sa : ∀ x ∈ a.toList, S x
  Sb : ∀ x ∈ b.toList, S x
  hA : a.toList.Pairwise (LE key)
  hB : b.toList.Pairwise (LE key)
  first : ∃ hb : 0 < b.size, ∀ x ∈ a.toList, LE key b[0] x
section
variable {a b out : Array Keyed} {na nb : Nat} (M : HiM prog w A s κ S key a b)
include M
theorem HiM.atA (hi : na < a.size) : S a[na] := M.Sa _ (Array.getElem_mem_toList hi)
theorem HiM.atB (hi : nb < b.size) : S b[nb] := M.Sb _ (Array.getElem_mem_toList hi)
theorem HiM.endA (hI : HInv key a.toList b.toList out.toList na nb) (e : na = 0) : Merged key a.toList b.toList (a.extract 0 na ++ b.extract 0 nb ++ out.reverse).toList := by
  rw [Array.toList_append, Array.toList_append, ext_pre, ext_pre, Array.toList_reverse]
  exact hI.done M.hA M.hB fun x hx => by rw [e, List.take_zero] at hx; cases hx
theorem HiM.endB0 (hI : HInv key a.toList b.toList out.toList na nb) (e : nb = 0) : Merged key a.toList b.toList (a.extract 0 na ++ b.extract 0 nb ++ out.reverse).toList := by
  rw [Array.toList_append, Array.toList_append, ext_pre, ext_pre, Array.toList_reverse]
  exact hI.done M.hA M.hB fun x _ y hy => by rw [e, List.take_zero] at hy; cases hy
theorem HiM.endB (hI : HInv key a.toList b.toList out.toList na nb) (e : nb = 1) : Merged key a.toList b.toList (b.extract 0 nb ++ a.extract 0 na ++ out.reverse).toList := by
  rw [Array.toList_append, Array.toList_append, ext_pre, ext_pre, Array.toList_reverse]
  refine hI.first M.hA M.hB fun x hx y hy => ?_
  obtain ⟨hb, hf⟩ := M.first
  have : x = b[0] := by
    rw [e, List.take_one] at hx
    have : b.toList.head? = some b[0] := by rw [List.head?_eq_getElem?]; simp [hb]
    rw [this] at hx
    simpa using hx
  rw [this]
  exact hf y (List.mem_of_mem_take hy)
theorem HiM.putA (hI : HInv key a.toList b.toList out.toList na nb) (h0 : 0 < na) (hna : na ≤ a.size) (h : ∀ z ∈ b.toList.take nb, LE key z (a[na - 1]'(Nat.lt_of_lt_of_le (Nat.sub_lt h0 Nat.one_pos) hna))) : HInv key a.toList b.toList (out.push (a[na - 1]'(Nat.lt_of_lt_of_le (Nat.sub_lt h0 Nat.one_pos) hna))).toList (na - 1) nb := by
  rw [Array.toList_push]
  exact hI.pushA M.hA h0 hna h
theorem HiM.putB (hI : HInv key a.toList b.toList out.toList na nb) (h0 : 0 < nb) (hnb : nb ≤ b.size) (h : ∀ z ∈ a.toList.take na, LE key z (b[nb - 1]'(Nat.lt_of_lt_of_le (Nat.sub_lt h0 Nat.one_pos) hnb))) : HInv key a.toList b.toList (out.push (b[nb - 1]'(Nat.lt_of_lt_of_le (Nat.sub_lt h0 Nat.one_pos) hnb))).toList na (nb - 1) := by
  rw [Array.toList_push]
  exact hI.pushB M.hB h0 hnb h
theorem HiM.leA {i : Nat} {y : Keyed} (h0 : 0 < i) (hi : i ≤ a.size) (hy : y ∈ a.toList.take i) : LE key y (a[i - 1]'(Nat.lt_of_lt_of_le (Nat.sub_lt h0 Nat.one_pos) hi)) := take_le M.hA h0 hi y hy
theorem HiM.leB {i : Nat} {y : Keyed} (h0 : 0 < i) (hi : i ≤ b.size) (hy : y ∈ b.toList.take i) : LE key y (b[i - 1]'(Nat.lt_of_lt_of_le (Nat.sub_lt h0 Nat.one_pos) hi)) := take_le M.hB h0 hi y hy
end
/-- how far a merge from above stands -/
structure HiJ (key : Keyed → List Int) (a b out : Array Keyed) (na nb : Nat) : Prop where
  I : HInv key a.toList b.toList out.toList na nb
  a0 : 0 < na
  b1 : 1 < nb
  ha : na ≤ a.size
  hb : nb ≤ b.size
theorem hi_step {a b y n : Nat} (h : 0 < a) (h1 : a + b + y ≤ n) : a - 1 + b + (y + 1) ≤ n := by lia
theorem lt_pred {i n : Nat} (h0 : 0 < i) (hi : i ≤ n) : i - 1 < n := Nat.lt_of_lt_of_le (Nat.sub_lt h0 Nat.one_pos) hi
/-- what the gallop's loop is to reach -/
structure HiE (key : Keyed → List Int) (a b : Array Keyed) (st : SortSt) (n : Nat) (R : ForInStep HiC → SortSt → Prop) : Prop where
  fin : ∀ r out ia ib mg ac bc, Merged key a.toList b.toList r.toList → R (.done (some r, ia, ib, out, mg, ac, bc)) st
  brk : ∀ out ia ib mg ac bc, HiJ key a b out ia ib → ia + ib < n → R (.done (none, ia, ib, out, mg, ac, bc)) st
  go : ∀ out ia ib mg ac bc, HiJ key a b out ia ib → ia + ib < n → R (.yield (none, ia, ib, out, mg, ac, bc)) st
section
variable {a b out : Array Keyed} {na nb mg ac bc n : Nat} {st : SortSt} {R : ForInStep HiC → SortSt → Prop} (M : HiM prog w A s κ S key a b) (N : HiE key a b st n R)
include M N
theorem wpS_hi3 (J : HiJ key a b out na nb) (hle : ∀ z ∈ b.toList.take nb, LE key z (a[na - 1]'(lt_pred J.a0 J.ha))) (hn : na + nb ≤ n) : wpS (model prog w) A E s (hi3 a b out na nb mg ac bc) R st := by
  refine wpS_bind (wpS_elem (lt_pred J.a0 J.ha) ?_)
  have hI4 := M.putA J.I J.a0 J.ha hle
  by_cases e6 : na - 1 = 0
  · rw [if_pos (beq_iff_eq.mpr e6)]
    exact wpS_pure (N.fin _ _ _ _ _ _ _ (M.endA hI4 e6))
  rw [if_neg (fun q => e6 (beq_iff_eq.mp q))]
  have J4 : HiJ key a b _ (na - 1) nb := ⟨hI4, Nat.pos_of_ne_zero e6, J.b1, Nat.le_trans (Nat.sub_le _ _) J.ha, J.hb⟩
  have h6 : na - 1 + nb < n := Nat.lt_of_lt_of_le (Nat.add_lt_add_right (Nat.sub_lt J.a0 Nat.one_pos) _) hn
  exact wpS_ite (fun _ => wpS_pure (N.brk _ _ _ _ _ _ J4 h6)) fun _ => wpS_pure (N.go _ _ _ _ _ _ J4 h6)
theorem wpS_hi2 (hκ : kindOf st = κ) (J : HiJ key a b out na nb) (hle : ∀ z ∈ a.toList.take na, LE key z (b[nb - 1]'(lt_pred (Nat.lt_of_succ_lt J.b1) J.hb))) (hn : na + nb ≤ n) : wpS (model prog w) A E s (hi2 a b out na nb mg ac bc) R st := by
  refine wpS_bind (wpS_elem (lt_pred (Nat.lt_of_succ_lt J.b1) J.hb) ?_)
  have hI2 := M.putB J.I (Nat.lt_of_succ_lt J.b1) J.hb hle
  by_cases e3 : nb - 1 = 1
  · rw [if_pos (beq_iff_eq.mpr e3)]
    exact wpS_pure (N.fin _ _ _ _ _ _ _ (M.endB hI2 e3))
  rw [if_neg (fun q => e3 (beq_iff_eq.mp q))]
  have hnb := J.b1
  have hb' := J.hb
  have J2 : HiJ key a b _ na (nb - 1) := ⟨hI2, J.a0, by (first | exact ar73 e3 hnb | lia), J.ha, Nat.le_trans (Nat.sub_le _ _) J.hb⟩
  have h1 : na + (nb - 1) ≤ n := Nat.le_trans (Nat.add_le_add_left (Nat.sub_le _ _) _) hn
  refine wpS_bind (wpS_elem (lt_pred J.a0 J.ha) ?_)
  refine wpS_bind (wpS_gallopL M.C hκ (M.atA _) M.Sb (by rw [List.drop_zero]; exact M.hB.sublist (List.take_sublist _ _)) (by rw [Nat.zero_add]; exact J2.hb) (Nat.sub_lt (Nat.lt_of_succ_lt J2.b1) Nat.one_pos) fun t ht h3 h4 => ?_)
  rw [List.drop_zero] at h3 h4
  refine wpS_ite (fun hk1 => ?_) fun hk1 => ?_
  · have hI3 := J2.I.appB M.hB (t := t) ht J2.hb (fun x hx y hy => LE.trans (M.leA J.a0 J.ha hy) (h4 x hx))
    rw [← ext_rev, ← Array.toList_append] at hI3
    by_cases e4 : t = 1
    · rw [if_pos (beq_iff_eq.mpr e4)]
      exact wpS_pure (N.fin _ _ _ _ _ _ _ (M.endB hI3 e4))
    rw [if_neg (fun q => e4 (beq_iff_eq.mp q))]
    by_cases e5 : t = 0
    · rw [if_pos (beq_iff_eq.mpr e5)]
      exact wpS_pure (N.fin _ _ _ _ _ _ _ (M.endB0 hI3 e5))
    rw [if_neg (fun q => e5 (beq_iff_eq.mp q))]
    exact wpS_hi3 M N ⟨hI3, J.a0, by (first | exact ar240 e4 e5 | lia), J.ha, Nat.le_trans ht J2.hb⟩ (fun z hz => lle_of_llt (h3 z hz)) (Nat.le_trans (Nat.add_le_add_left ht _) h1)
  · obtain rfl : t = nb - 1 := by (first | exact ar315 ht hk1 | lia)
    exact wpS_hi3 M N J2 (fun z hz => lle_of_llt (h3 z hz)) h1
end
theorem wpS_hi1 {a b out : Array Keyed} {na nb mg ac bc n : Nat} {st : SortSt} {R : ForInStep HiC → SortSt → Prop} (M : HiM prog w A s κ S key a b) (N : ∀ st', SameG st st' → HiE key a b st' n R) (hκ : kindOf st = κ) (J : HiJ key a b out na nb) (hn : na + nb ≤ n) : wpS (model prog w) A E s (hi1 a b out na nb mg ac bc) R st := by
  refine wpS_bind (wpS_setG fun st2 hG2 => ?_)
  replace N := N st2 hG2
  replace hκ := hG2.1.trans hκ
  refine wpS_bind (wpS_elem (lt_pred (Nat.lt_of_succ_lt J.b1) J.hb) ?_)
  refine wpS_bind (wpS_gallopR M.C hκ (M.atB _) M.Sa (by rw [List.drop_zero]; exact M.hA.sublist (List.take_sublist _ _)) (by rw [Nat.zero_add]; exact J.ha) (Nat.sub_lt J.a0 Nat.one_pos) fun t ht hk1 hk2 => ?_)
  rw [List.drop_zero] at hk1 hk2
  refine wpS_ite (fun hk0 => ?_) fun hk0 => ?_
  · have hI1 := J.I.appA M.hA (t := t) ht J.ha (fun x hx y hy => LE.trans (M.leB (Nat.lt_of_succ_lt J.b1) J.hb hy) (lle_of_llt (hk2 x hx)))
    rw [← ext_rev, ← Array.toList_append] at hI1
    by_cases e1 : t = 0
    · rw [if_pos (beq_iff_eq.mpr e1)]
      exact wpS_pure (N.fin _ _ _ _ _ _ _ (M.endA hI1 e1))
    rw [if_neg (fun q => e1 (beq_iff_eq.mp q))]
    exact wpS_hi2 M N hκ ⟨hI1, Nat.pos_of_ne_zero e1, J.b1, Nat.le_trans ht J.ha, J.hb⟩ (fun z hz => hk1 z hz) (Nat.le_trans (Nat.add_le_add_right ht _) hn)
  · obtain rfl : t = na := by (first | exact ar324 ht hk0 | lia)
    exact wpS_hi2 M N hκ J (fun z hz => hk1 z hz) hn
theorem wpS_hi0 {a b out : Array Keyed} {na nb mg ac bc n : Nat} {st : SortSt} {R : ForInStep HiC → SortSt → Prop} (M : HiM prog w A s κ S key a b) (N : ∀ st', SameG st st' → HiE key a b st' n R) (hκ : kindOf st = κ) (J : HiJ key a b out na nb) (hn : na + nb ≤ n) : wpS (model prog w) A E s (hi0 a b out na nb mg ac bc) R st :=
  wpS_ite (fun _ => wpS_hi1 M N hκ J hn) fun _ => wpS_hi1 M N hκ J hn
theorem wpS_hiRest {a b out : Array Keyed} {na nb mg ac bc n : Nat} {st : SortSt} {R : ForInStep HiA → SortSt → Prop} (M : HiM prog w A s κ S key a b) (hκ : kindOf st = κ) (J : HiJ key a b out na nb) (hn : na + nb < n)
    (fin : ∀ r out na nb mg st', SameG st st' → Merged key a.toList b.toList r.toList → R (.done (some r, na, nb, out, mg)) st')
    (go : ∀ out na nb mg st', SameG st st' → HiJ key a b out na nb → na + nb < n → R (.yield (none, na, nb, out, mg)) st') : wpS (model prog w) A E s (hiRest a b out na nb mg ac bc) R st := by
  refine wpS_bind (wpS_lift (wpAny_rule ⟨rfl, ?_⟩))
  have hna := J.ha
  have hnb := J.hb
  refine wpS_bind (wpS_mono (wpS_forRange
    (I := fun y c st' => SameG st st' ∧ ∃ out na' nb' mg ac bc, c = (none, na', nb', out, mg, ac, bc) ∧ HiJ key a b out na' nb' ∧ na' + nb' + y ≤ na + nb)
    (Q := fun c st' => SameG st st' ∧ ((∃ r, c.1 = some r ∧ Merged key a.toList b.toList r.toList) ∨ ∃ out na' nb' mg ac bc, c = (none, na', nb', out, mg, ac, bc) ∧ HiJ key a b out na' nb' ∧ na' + nb' < n)) ?gstep ?gfin ⟨.refl _, out, na, nb, _, _, _, rfl, J, Nat.le_refl _⟩) ?gpost)
  case gfin =>
    intro c st' hp2_
    refine Mine.byv fun P_ kP_ => ?_
    obtain ⟨hG, out, na', nb', mg, ac, bc, rfl, J', hp'⟩ := hp2_
    refine kP_ ?_
    clear kP_ P_
    have := J'.a0
    lia
  case gpost =>
    intro hp0_ st' hp2_
    obtain ⟨c1, c2⟩ := hp0_
    obtain ⟨hG, (⟨r, e, hM⟩ | ⟨out, na', nb', mg, ac, bc, e, J', hp'⟩)⟩ := hp2_
    · cases e
      exact wpS_pure (fin r _ _ _ _ _ hG hM)
    · cases e
      exact wpS_bind (wpS_setG fun st2 hG2 => wpS_pure (go _ _ _ _ _ (hG.trans hG2) J' hp'))
  case gstep =>
    intro y c st' _ hy hp5_
    refine Mine.byv fun P_ kP_ => ?_
    obtain ⟨hG, out, na', nb', mg, ac, bc, rfl, J', hp'⟩ := hp5_
    refine kP_ ?_
    clear kP_ P_
    exact wpS_hi0 M (n := na' + nb') (fun st2 hG2 => ⟨fun r out ia ib mg ac bc hM => ⟨hG.trans hG2, .inl ⟨_, rfl, hM⟩⟩, fun out ia2 ib2 mg ac bc J h3 => ⟨hG.trans hG2, .inr ⟨_, _, _, _, _, _, rfl, J, Nat.lt_of_lt_of_le h3 (Nat.le_trans (Nat.le_trans (Nat.le_add_right _ y) hp') (Nat.le_of_lt hn))⟩⟩, fun out ia2 ib2 mg ac bc J h3 => ⟨hG.trans hG2, _, _, _, _, _, _, rfl, J, Nat.le_trans (show ia2 + ib2 + (y + 1) ≤ na' + nb' + y by rw [← Nat.add_assoc, Nat.add_right_comm]; exact Nat.add_le_add_right h3 y) hp'⟩⟩) (hG.1.trans hκ) J' (Nat.le_refl _)
theorem wpS_hiStep {a b out : Array Keyed} {na nb mg : Nat} {st : SortSt} {R : ForInStep HiA → SortSt → Prop} (M : HiM prog w A s κ S key a b) (hκ : kindOf st = κ) (J : HiJ key a b out na nb)
    (fin : ∀ r out na nb mg st', SameG st st' → Merged key a.toList b.toList r.toList → R (.done (some r, na, nb, out, mg)) st')
    (go : ∀ out' na' nb' mg st', SameG st st' → HiJ key a b out' na' nb' → na' + nb' < na + nb → R (.yield (none, na', nb', out', mg)) st') : wpS (model prog w) A E s (hiStep a b out na nb mg) R st := by
  have hna := J.ha
  have hnb := J.hb
  refine wpS_bind (wpS_mono (wpS_forRange
    (I := fun y c st' => SameG st st' ∧ ∃ out na' nb' ac bc, c = (none, na', nb', out, ac, bc) ∧ HiJ key a b out na' nb' ∧ na' + nb' + y ≤ na + nb)
    (Q := fun c st' => SameG st st' ∧ ((∃ r, c.1 = some r ∧ Merged key a.toList b.toList r.toList) ∨ ∃ out na' nb' ac bc, c = (none, na', nb', out, ac, bc) ∧ HiJ key a b out na' nb' ∧ na' + nb' < na + nb)) ?istep ?ifin ⟨.refl _, out, na, nb, 0, 0, rfl, J, Nat.le_refl _⟩) ?ipost)
  case ifin =>
    intro c st' hp2_
    refine Mine.byv fun P_ kP_ => ?_
    obtain ⟨hG, out, na', nb', ac, bc, rfl, J', hp'⟩ := hp2_
    refine kP_ ?_
    clear kP_ P_
    have := J'.a0
    lia
  case ipost =>
    intro hp0_ st' hp2_
    obtain ⟨c1, c2⟩ := hp0_
    obtain ⟨hG, (⟨r, e, hM⟩ | ⟨out, na', nb', ac, bc, e, J', hp'⟩)⟩ := hp2_
    · cases e
      exact wpS_pure (fin r _ _ _ _ _ hG hM)
    · cases e
      exact wpS_hiRest M (hG.1.trans hκ) J' hp' (fun r out ia ib mg st2 g2 => fin r out ia ib mg st2 (hG.trans g2)) fun out ia ib mg st2 g2 => go out ia ib mg st2 (hG.trans g2)
  case istep =>
    intro y c st' _ hy hp5_
    refine Mine.byv fun P_ kP_ => ?_
    obtain ⟨hG, out, na', nb', ac, bc, rfl, J', hp'⟩ := hp5_
    refine kP_ ?_
    clear kP_ P_
    have hnb0 := Nat.lt_of_succ_lt J'.b1
    refine wpS_bind (wpS_elem (lt_pred hnb0 J'.hb) (wpS_bind (wpS_elem (lt_pred J'.a0 J'.ha) (wpS_bind (M.C.lt _ _ (M.atB _) (M.atA _) _ _ _ (hG.1.trans hκ) ?_)))))
    dsimp only
    cases hlt : llt (key (b[nb' - 1]'(lt_pred hnb0 J'.hb))) (key (a[na' - 1]'(lt_pred J'.a0 J'.ha))) with
    | true =>
      rw [if_pos rfl]
      refine wpS_bind (wpS_elem (lt_pred J'.a0 J'.ha) ?_)
      have hI' := M.putA J'.I J'.a0 J'.ha (fun z hz => LE.trans (M.leB hnb0 J'.hb hz) (lle_of_llt hlt))
      by_cases e : na' - 1 = 0
      · rw [if_pos (beq_iff_eq.mpr e)]
        exact wpS_pure ⟨hG, .inl ⟨_, rfl, M.endA hI' e⟩⟩
      rw [if_neg (fun q => e (beq_iff_eq.mp q))]
      have J4 : HiJ key a b _ (na' - 1) nb' := ⟨hI', Nat.pos_of_ne_zero e, J'.b1, Nat.le_trans (Nat.sub_le _ _) J'.ha, J'.hb⟩
      have h8 : na' - 1 + nb' + (y + 1) ≤ na + nb := hi_step J'.a0 hp'
      exact wpS_ite (fun _ => wpS_pure ⟨hG, .inr ⟨_, _, _, _, _, rfl, J4, Nat.lt_of_lt_of_le (Nat.lt_add_of_pos_right (Nat.succ_pos y)) h8⟩⟩) fun _ => wpS_pure ⟨hG, _, _, _, _, _, rfl, J4, h8⟩
    | false =>
      rw [if_neg Bool.false_ne_true]
      refine wpS_bind (wpS_elem (lt_pred hnb0 J'.hb) ?_)
      have hI' := M.putB J'.I hnb0 J'.hb (fun z hz => LE.trans (M.leA J'.a0 J'.ha hz) hlt)
      by_cases e : nb' - 1 = 1
      · rw [if_pos (beq_iff_eq.mpr e)]
        exact wpS_pure ⟨hG, .inl ⟨_, rfl, M.endB hI' e⟩⟩
      rw [if_neg (fun q => e (beq_iff_eq.mp q))]
      have h7 := J'.b1
      have J4 : HiJ key a b _ na' (nb' - 1) := ⟨hI', J'.a0, by (first | exact ar73 e h7 | lia), J'.ha, Nat.le_trans (Nat.sub_le _ _) J'.hb⟩
      have h8 : na' + (nb' - 1) + (y + 1) ≤ na + nb := by rw [Nat.add_comm na']; exact hi_step hnb0 (by rw [Nat.add_comm nb']; exact hp')
      exact wpS_ite (fun _ => wpS_pure ⟨hG, .inr ⟨_, _, _, _, _, rfl, J4, Nat.lt_of_lt_of_le (Nat.lt_add_of_pos_right (Nat.succ_pos y)) h8⟩⟩) fun _ => wpS_pure ⟨hG, _, _, _, _, _, rfl, J4, h8⟩
theorem wpS_mergeHi (C : CmpOk prog w A s κ S key) {a b : Array Keyed} {st : SortSt} {Q : Array Keyed → SortSt → Prop} (hκ : kindOf st = κ) (hSa : ∀ x ∈ a.toList, S x) (hSb : ∀ x ∈ b.toList, S x)
    (hA : a.toList.Pairwise (LE key)) (hB : b.toList.Pairwise (LE key)) (ha : 0 < a.size) (hb : 0 < b.size) (hfirst : ∀ x ∈ a.toList, LE key b[0] x) (hlast : ∀ y ∈ b.toList, LE key y a[a.size - 1])
    (h : ∀ r st', SameG st st' → Merged key a.toList b.toList r.toList → Q r st') : wpS (model prog w) A E s (mergeHi' a b) Q st := by
  rw [mergeHi'_eq]
  have M : HiM prog w A s κ S key a b := ⟨C, hSa, hSb, hA, hB, hb, hfirst⟩
  refine wpS_bind (wpS_lift (wpAny_rule ⟨rfl, ?_⟩))
  refine wpS_bind (wpS_elem (lt_pred ha (Nat.le_refl _)) ?_)
  have hI0 : HInv key a.toList b.toList (#[a[a.size - 1]] : Array Keyed).toList (a.size - 1) b.size := M.putA (out := #[]) HInv.nil ha (Nat.le_refl _) (fun y hy => hlast y (List.mem_of_mem_take hy))
  by_cases h1 : a.size - 1 = 0
  · rw [if_pos (beq_iff_eq.mpr h1)]
    exact wpS_pure (h _ _ (.refl _) (M.endA hI0 h1))
  rw [if_neg (fun q => h1 (beq_iff_eq.mp q))]
  by_cases h2 : b.size = 1
  · rw [if_pos (beq_iff_eq.mpr h2)]
    exact wpS_pure (h _ _ (.refl _) (M.endB hI0 h2))
  rw [if_neg (fun q => h2 (beq_iff_eq.mp q))]
  refine wpS_bind (wpS_get ?_)
  refine wpS_bind (wpS_mono (wpS_forRange
    (I := fun x c st' => SameG st st' ∧ ∃ out na nb mg, c = (none, na, nb, out, mg) ∧ HiJ key a b out na nb ∧ na + nb + x + 1 ≤ a.size + b.size)
    (Q := fun c st' => SameG st st' ∧ ∃ r, c.1 = some r ∧ Merged key a.toList b.toList r.toList) ?step ?fin ⟨.refl _, _, a.size - 1, b.size, _, rfl, ⟨hI0, by (first | exact ar238 h1 | lia), by (first | exact ar207 hb h2 | lia), Nat.sub_le _ _, Nat.le_refl _⟩, by lia⟩) ?post)
  case post =>
    intro hp0_ st' hp2_
    refine Mine.byv fun P_ kP_ => ?_
    obtain ⟨c1, c2⟩ := hp0_
    obtain ⟨hG, r, e, hM⟩ := hp2_
    refine kP_ ?_
    clear kP_ P_
    cases e
    exact wpS_pure (h r st' hG hM)
  case fin =>
    intro c st' hp2_
    refine Mine.byv fun P_ kP_ => ?_
    obtain ⟨hG, out, na, nb, mg, rfl, J, hp⟩ := hp2_
    refine kP_ ?_
    clear kP_ P_
    exact absurd (Nat.le_trans (by (first | exact ar401 | lia) : _ ≤ na + nb + (a.size + b.size) + 1) hp) (Nat.not_succ_le_self _)
  case step =>
    intro x c st' _ hx hp5_
    refine Mine.byv fun P_ kP_ => ?_
    obtain ⟨hG, out, na, nb, mg, rfl, J, hp⟩ := hp5_
    refine kP_ ?_
    clear kP_ P_
    exact wpS_hiStep M (hG.1.trans hκ) J (fun r out ia ib mg st2 g2 hM => ⟨hG.trans g2, r, rfl, hM⟩) fun out' na' nb' mg st2 g2 J' h8 => ⟨hG.trans g2, _, _, _, _, rfl, J', Nat.le_trans (Nat.succ_le_succ (by rw [← Nat.add_assoc, Nat.add_right_comm]; exact Nat.add_le_add_right h8 x)) hp⟩
end
noncomputable def ascL (lo a nrem : Nat) : StateT SortSt Sem AscSt :=
  forIn [a:nrem] ((none, a) : AscSt) fun _ __s => do
    let __x ← ltAt' (lo + __s.snd) (lo + __s.snd - 1)
    match __x with
    | some smaller => if smaller = true then pure (ForInStep.done (none, __s.snd)) else pure (ForInStep.yield (none, __s.snd + 1))
    | _ => pure (ForInStep.done (some none, __s.snd))
noncomputable def tailL (lo n nrem : Nat) : StateT SortSt Sem (Option Nat) := do
  reverseSlice' lo (lo + n)
  let __s ← ascL lo n nrem
  match __s.fst with
  | some r => pure r
  | none => pure (some __s.snd)
noncomputable def descL (lo n nrem : Nat) : StateT SortSt Sem DescSt :=
  forIn [n:nrem] ((none, n, 0) : DescSt) fun _ __s => do
    let __x ← ltAt' (lo + __s.snd.fst) (lo + __s.snd.fst - 1)
    match __x with
    | some smaller =>
      if smaller = true then
        if __s.snd.snd > 0 then do
          reverseSlice' (lo + __s.snd.fst - (__s.snd.snd + 1)) (lo + __s.snd.fst)
          pure (ForInStep.yield (none, __s.snd.fst + 1, 0))
        else pure (ForInStep.yield (none, __s.snd.fst + 1, 0))
      else do
        let __x ← ltAt' (lo + __s.snd.fst - 1) (lo + __s.snd.fst)
        match __x with
        | some larger =>
          if larger = true then pure (ForInStep.done (none, __s.snd.fst, __s.snd.snd))
          else pure (ForInStep.yield (none, __s.snd.fst + 1, __s.snd.snd + 1))
        | _ => pure (ForInStep.done (some none, __s.snd.fst, __s.snd.snd))
    | _ => pure (ForInStep.done (some none, __s.snd.fst, __s.snd.snd))
noncomputable def descPartL (lo n nrem : Nat) : StateT SortSt Sem (Option Nat) := do
  liftM (rule "list.sort.descending-run")
  let __s ← descL lo (n + 1) nrem
  match __s.fst with
  | some r => pure r
  | none =>
    if __s.snd.snd > 0 then do
      reverseSlice' (lo + __s.snd.fst - (__s.snd.snd + 1)) (lo + __s.snd.fst)
      tailL lo __s.snd.fst nrem
    else tailL lo __s.snd.fst nrem
theorem countRunL_eq (lo nrem : Nat) : countRun' lo nrem = (do
    let __s ← ascL lo 1 nrem
    match __s.fst with
    | some r => pure r
    | none =>
      if (__s.snd == nrem) = true then pure (some __s.snd)
      else if __s.snd > 1 then do
        let __x ← ltAt' lo (lo + __s.snd - 1)
        match __x with
        | some rose => if rose = true then pure (some __s.snd) else do
            reverseSlice' lo (lo + __s.snd)
            descPartL lo __s.snd nrem
        | _ => pure none
      else descPartL lo __s.snd nrem) := by kernel_rfl
section
variable {key : Keyed → List Int}
noncomputable def kk (key : Keyed → List Int) (xs : Array Keyed) (i : Nat) : List Int := (xs[i]?.map key).getD []
theorem kk_congr {xs ys : Array Keyed} {i j : Nat} (h : xs[i]? = ys[j]?) : kk key xs i = kk key ys j := by unfold kk; rw [h]
theorem kk_bubble {xs : Array Keyed} {src d : Nat} (hs : src < xs.size) (hd : d ≤ src) (k : Nat) :
    kk key (bubble xs src d) k = if k = src - d then kk key xs src else if src - d < k ∧ k ≤ src then kk key xs (k - 1) else kk key xs k := by
  have e := getElem?_bubble hs d hd k
  by_cases h1 : k = src - d
  · rw [if_pos h1] at e ⊢; exact kk_congr e
  · rw [if_neg h1] at e ⊢
    by_cases h2 : src - d < k ∧ k ≤ src
    · rw [if_pos h2] at e ⊢; exact kk_congr e
    · rw [if_neg h2] at e ⊢; exact kk_congr e
theorem kk_mirror {xs : Array Keyed} {i j : Nat} (hj : j ≤ xs.size) (k : Nat) :
    kk key (mirror xs i j ((j - i) / 2)) k = if i ≤ k ∧ k < j then kk key xs (i + j - 1 - k) else kk key xs k := by
  have e := getElem?_mirror_all (i := i) hj k
  by_cases h1 : i ≤ k ∧ k < j
  · rw [if_pos h1] at e ⊢; exact kk_congr e
  · rw [if_neg h1] at e ⊢; exact kk_congr e
theorem kk_mirror_equal {xs : Array Keyed} {i j : Nat} (hj : j ≤ xs.size) (heq : ∀ k, i ≤ k → k < j → kk key xs k = kk key xs (j - 1)) (k : Nat) :
    kk key (mirror xs i j ((j - i) / 2)) k = kk key xs k := by
  rw [kk_mirror hj]
  split
  · rw [heq _ (by lia) (by lia), heq k (by (first | exact ar107 (by assumption) | lia)) (by (first | exact ar381 (by assumption) | lia))]
  · rfl
noncomputable def Asc (key : Keyed → List Int) (xs : Array Keyed) (lo k : Nat) : Prop := ∀ i j, lo ≤ i → i ≤ j → j < lo + k → lle (kk key xs i) (kk key xs j)
noncomputable def Dsc (key : Keyed → List Int) (xs : Array Keyed) (lo k : Nat) : Prop := ∀ i j, lo ≤ i → i ≤ j → j < lo + k → lle (kk key xs j) (kk key xs i)
/-- the state in the midst of a run: only the stretch lo..hi is stirred -/
structure SB (st₁ : SortSt) (lo hi : Nat) (st : SortSt) : Prop where
  perm : (arrOf st).Perm (arrOf st₁)
  kind : kindOf st = kindOf st₁
  failed : failedOf st = failedOf st₁
  pend : pendingOf st = pendingOf st₁
  out : ∀ k, k < lo ∨ hi ≤ k → (arrOf st)[k]? = (arrOf st₁)[k]?
theorem SB.refl (st : SortSt) (lo hi : Nat) : SB st lo hi st := ⟨Array.Perm.refl _, rfl, rfl, rfl, fun _ _ => rfl⟩
theorem SB.size {st₁ st : SortSt} {lo hi : Nat} (h : SB st₁ lo hi st) : (arrOf st).size = (arrOf st₁).size := h.perm.size_eq
theorem SB.trans {a b c : SortSt} {lo hi : Nat} (h : SB a lo hi b) (k : SB b lo hi c) : SB a lo hi c :=
  ⟨k.perm.trans h.perm, k.kind.trans h.kind, k.failed.trans h.failed, k.pend.trans h.pend, fun q hq => (k.out q hq).trans (h.out q hq)⟩
theorem SB.setArr {st₁ st : SortSt} {lo hi : Nat} (h : SB st₁ lo hi st) {xs : Array Keyed} (hp : xs.Perm (arrOf st)) (ho : ∀ k, k < lo ∨ hi ≤ k → xs[k]? = (arrOf st)[k]?) : SB st₁ lo hi (setArr st xs) :=
  ⟨hp.trans h.perm, h.kind, h.failed, h.pend, fun k hk => (ho k hk).trans (h.out k hk)⟩
theorem SB.mirror {st₁ st : SortSt} {lo hi : Nat} (h : SB st₁ lo hi st) {i j : Nat} (hi' : lo ≤ i) (hj : j ≤ hi) (hs : j ≤ (arrOf st).size) : SB st₁ lo hi (PyProof.Rows.setArr st (mirror (arrOf st) i j ((j - i) / 2))) :=
  h.setArr (mirror_perm _ _ _ _) fun k hk => by rw [getElem?_mirror_all hs, if_neg (by (first | exact ar451 hi' hj hk | lia))]
theorem SB.bubble {st₁ st : SortSt} {lo hi : Nat} (h : SB st₁ lo hi st) {src d : Nat} (h1 : lo + d ≤ src) (h2 : src < hi) (hs : src < (arrOf st).size) : SB st₁ lo hi (PyProof.Rows.setArr st (bubble (arrOf st) src d)) :=
  h.setArr (bubble_perm _ _ _) fun k hk => by rw [getElem?_bubble hs d (by (first | exact ar353 h1 | lia)), if_neg (by lia), if_neg (by lia)]
end
section
variable {prog : Program} {w : World} {A : Around} {E : Value → Shared → Prop} {s : Shared} {κ : SortKind} {S : Keyed → Prop} {key : Keyed → List Int} {st₁ : SortSt} {lo nrem : Nat}
theorem wpS_ltK' (C : CmpOk prog w A s κ S key) (hκ : kindOf st₁ = κ) (hS : ∀ x ∈ (arrOf st₁).toList, S x) {hi : Nat} {st : SortSt} {i j : Nat} {Q : Option Bool → SortSt → Prop} (hB : SB st₁ lo hi st) (hi : i < (arrOf st₁).size) (hj : j < (arrOf st₁).size)
    (h : Q (some (llt (kk key (arrOf st) i) (kk key (arrOf st) j))) st) : wpS (model prog w) A E s (ltAt' i j) Q st := by
  rw [ltAt'_eq]
  refine wpS_bind (wpS_get ?_)
  have hi' : i < (arrOf st).size := by rw [hB.size]; exact hi
  have hj' : j < (arrOf st).size := by rw [hB.size]; exact hj
  have mem : ∀ k (hk : k < (arrOf st).size), S (arrOf st)[k] := fun k hk => hS _ ((Array.perm_iff_toList_perm.mp hB.perm).mem_iff.mp (by simp))
  refine wpS_bind (wpS_elem hi' (wpS_bind (wpS_elem hj' (C.lt _ _ (mem i hi') (mem j hj') _ _ _ (hB.kind.trans hκ) ?_))))
  have ei : kk key (arrOf st) i = key (arrOf st)[i] := by unfold kk; rw [getElem?_pos _ i hi']; rfl
  have ej : kk key (arrOf st) j = key (arrOf st)[j] := by unfold kk; rw [getElem?_pos _ j hj']; rfl
  rw [ei, ej] at h
  exact h
theorem wpS_ascL (C : CmpOk prog w A s κ S key) (hκ : kindOf st₁ = κ) (hS : ∀ x ∈ (arrOf st₁).toList, S x) {st : SortSt} {a : Nat} {Q : AscSt → SortSt → Prop} (hn : lo + nrem ≤ (arrOf st₁).size) (ha : 1 ≤ a) (han : a ≤ nrem) (hB : SB st₁ lo (lo + nrem) st)
    (hs : Asc key (arrOf st) lo a)
    (h : ∀ n, a ≤ n → n ≤ nrem → Asc key (arrOf st) lo n → (n = nrem ∨ llt (kk key (arrOf st) (lo + n)) (kk key (arrOf st) (lo + n - 1)) = true) → Q (none, n) st) :
    wpS (model prog w) A E s (ascL lo a nrem) Q st := by
  unfold ascL
  refine wpS_forRange (I := fun x c st' => st' = st ∧ c = (none, x) ∧ Asc key (arrOf st) lo x) ?step ?fin ⟨rfl, rfl, hs⟩
  case fin =>
    intro c st' hp2_
    obtain ⟨rfl, rfl, hs'⟩ := hp2_
    rw [show max a nrem = nrem by lia] at hs' ⊢
    exact h nrem han (Nat.le_refl _) hs' (.inl rfl)
  case step =>
    intro x c st' hax hxn hp5_
    obtain ⟨rfl, rfl, hs'⟩ := hp5_
    dsimp only
    refine wpS_bind (wpS_ltK' C hκ hS hB (by (first | exact ar2 hn hxn | lia)) (by (first | exact ar40 hn hxn | lia)) ?_)
    cases hless : llt (kk key (arrOf st') (lo + x)) (kk key (arrOf st') (lo + x - 1))
    case true =>
      simp only [if_true]
      exact wpS_pure (h x hax (by (first | exact ar81 hxn | lia)) hs' (.inr hless))
    case false =>
      simp only [Bool.false_eq_true, if_false]
      refine wpS_pure ⟨rfl, rfl, fun i j hl hij hj => ?_⟩
      by_cases hjx : j < lo + x
      · exact hs' i j hl hij hjx
      · have hj' : j = lo + x := by (first | exact ar18 hj hjx | lia)
        subst hj'
        by_cases hi' : i = lo + x
        · subst hi'; exact lle_refl _
        · exact lle_trans (hs' i (lo + x - 1) hl (by (first | exact ar37 hij hi' | lia)) (by (first | exact ar35 ha hax | lia))) hless
theorem wpS_tailL (C : CmpOk prog w A s κ S key) (hκ : kindOf st₁ = κ) (hS : ∀ x ∈ (arrOf st₁).toList, S x) {st : SortSt} {n : Nat} {Q : Option Nat → SortSt → Prop} (hn : lo + nrem ≤ (arrOf st₁).size) (h1 : 1 ≤ n) (hnn : n ≤ nrem) (hB : SB st₁ lo (lo + nrem) st)
    (hs : Dsc key (arrOf st) lo n) (h : ∀ m st', SB st₁ lo (lo + nrem) st' → 1 ≤ m → m ≤ nrem → Asc key (arrOf st') lo m → Q (some m) st') :
    wpS (model prog w) A E s (tailL lo n nrem) Q st := by
  unfold tailL
  have hsz : lo + n ≤ (arrOf st).size := by rw [hB.size]; (first | exact ar41 hn hnn | lia)
  refine wpS_bind (wpS_reverse ?_)
  have hB' := hB.mirror (i := lo) (j := lo + n) (by (first | exact ar24 | lia)) (by (first | exact ar38 hnn | lia)) hsz
  refine wpS_bind (wpS_ascL C hκ hS hn h1 hnn hB' ?_ fun m hm1 hm2 hsm _ => wpS_pure (h m _ hB' (by (first | exact ar262 h1 hm1 | lia)) hm2 hsm))
  intro i j hl hij hj
  show lle (kk key (mirror (arrOf st) lo (lo + n) ((lo + n - lo) / 2)) i) (kk key (mirror (arrOf st) lo (lo + n) ((lo + n - lo) / 2)) j)
  rw [kk_mirror hsz, kk_mirror hsz, if_pos (by (first | exact ar426 hl hij hj | lia)), if_pos (by (first | exact ar427 hl hij hj | lia))]
  exact hs _ _ (by lia) (by (first | exact ar423 hij | lia)) (by lia)
theorem wpS_descL (C : CmpOk prog w A s κ S key) (hκ : kindOf st₁ = κ) (hS : ∀ x ∈ (arrOf st₁).toList, S x) {st : SortSt} {n : Nat} {Q : DescSt → SortSt → Prop} (hn : lo + nrem ≤ (arrOf st₁).size) (h1 : 1 ≤ n) (hnn : n ≤ nrem) (hB : SB st₁ lo (lo + nrem) st)
    (hs : Dsc key (arrOf st) lo n)
    (h : ∀ m neq st', SB st₁ lo (lo + nrem) st' → n ≤ m → m ≤ nrem → Dsc key (arrOf st') lo m → neq + 1 ≤ m → (∀ i, lo + m - (neq + 1) ≤ i → i < lo + m → kk key (arrOf st') i = kk key (arrOf st') (lo + m - 1)) → Q (none, m, neq) st') :
    wpS (model prog w) A E s (descL lo n nrem) Q st := by
  unfold descL
  refine wpS_forRange (I := fun x c st' => ∃ neq, c = (none, x, neq) ∧ SB st₁ lo (lo + nrem) st' ∧ Dsc key (arrOf st') lo x ∧ neq + 1 ≤ x ∧
      (∀ i, lo + x - (neq + 1) ≤ i → i < lo + x → kk key (arrOf st') i = kk key (arrOf st') (lo + x - 1))) ?step ?fin ⟨0, rfl, hB, hs, by (first | exact ar209 h1 | lia), fun i h1 h2 => by congr 1; lia⟩
  case fin =>
    intro c st' hp2_
    refine Mine.byv fun P_ kP_ => ?_
    obtain ⟨neq, rfl, hB', hs', hq, he⟩ := hp2_
    refine kP_ ?_
    clear kP_ P_
    rw [show max n nrem = nrem by lia] at hs' hq he ⊢
    exact h nrem neq st' hB' hnn (Nat.le_refl _) hs' hq he
  case step =>
    intro x c st' hax hxn hp5_
    refine Mine.byv fun P_ kP_ => ?_
    obtain ⟨neq, rfl, hB', hs', hq, he⟩ := hp5_
    refine kP_ ?_
    clear kP_ P_
    dsimp only
    have hsz : lo + x ≤ (arrOf st').size := by rw [hB'.size]; (first | exact ar408 hn hxn | lia)
    refine wpS_bind (wpS_ltK' C hκ hS hB' (by (first | exact ar2 hn hxn | lia)) (by (first | exact ar40 hn hxn | lia)) ?_)
    cases hless : llt (kk key (arrOf st') (lo + x)) (kk key (arrOf st') (lo + x - 1))
    case true =>
      simp only [if_true]
      have step1 : ∀ xs : Array Keyed, (∀ k, kk key xs k = kk key (arrOf st') k) → Dsc key xs lo (x + 1) := by
        intro xs hk i j hl hij hj
        rw [hk, hk]
        by_cases hjx : j < lo + x
        · exact hs' i j hl hij hjx
        · have hj' : j = lo + x := by (first | exact ar18 hj hjx | lia)
          subst hj'
          by_cases hi' : i = lo + x
          · subst hi'; exact lle_refl _
          · exact lle_trans (lle_of_llt hless) (hs' i (lo + x - 1) hl (by (first | exact ar37 hij hi' | lia)) (by (first | exact ar35 h1 hax | lia)))
      by_cases hneq : neq > 0
      · rw [if_pos hneq]
        refine wpS_bind (wpS_reverse (wpS_pure ⟨0, rfl, hB'.mirror (by (first | exact ar99 hq | lia)) (by (first | exact ar103 hxn | lia)) hsz, step1 _ (kk_mirror_equal hsz he), by (first | exact ar56 | lia), fun i h1 h2 => by congr 1; (first | exact ar97 h1 h2 | lia)⟩))
      · rw [if_neg hneq]
        exact wpS_pure ⟨0, rfl, hB', step1 _ (fun _ => rfl), by (first | exact ar56 | lia), fun i h1 h2 => by congr 1; (first | exact ar97 h1 h2 | lia)⟩
    case false =>
      simp only [Bool.false_eq_true, if_false]
      refine wpS_bind (wpS_ltK' C hκ hS hB' (by (first | exact ar40 hn hxn | lia)) (by (first | exact ar2 hn hxn | lia)) ?_)
      cases hlarger : llt (kk key (arrOf st') (lo + x - 1)) (kk key (arrOf st') (lo + x))
      case true =>
        simp only [if_true]
        exact wpS_pure (h x neq st' hB' hax (by (first | exact ar81 hxn | lia)) hs' hq he)
      case false =>
        simp only [Bool.false_eq_true, if_false]
        have heqx : kk key (arrOf st') (lo + x) = kk key (arrOf st') (lo + x - 1) := lle_antisymm hlarger hless
        refine wpS_pure ⟨neq + 1, rfl, hB', fun i j hl hij hj => ?_, by (first | exact ar268 hq | lia), fun i h1 h2 => ?_⟩
        · by_cases hjx : j < lo + x
          · exact hs' i j hl hij hjx
          · have hj' : j = lo + x := by (first | exact ar18 hj hjx | lia)
            subst hj'
            by_cases hi' : i = lo + x
            · subst hi'; exact lle_refl _
            · rw [heqx]; exact hs' i (lo + x - 1) hl (by (first | exact ar37 hij hi' | lia)) (by (first | exact ar35 h1 hax | lia))
        · rw [show lo + (x + 1) - 1 = lo + x by (first | exact ar245 | lia)]
          by_cases hix : i = lo + x
          · subst hix; rfl
          · rw [heqx]; exact he i (by lia) (by (first | exact ar360 h2 hix | lia))
theorem wpS_descPartL (C : CmpOk prog w A s κ S key) (hκ : kindOf st₁ = κ) (hS : ∀ x ∈ (arrOf st₁).toList, S x) {st : SortSt} {n : Nat} {Q : Option Nat → SortSt → Prop} (hn : lo + nrem ≤ (arrOf st₁).size) (hnn : n + 1 ≤ nrem) (hB : SB st₁ lo (lo + nrem) st)
    (hs : Dsc key (arrOf st) lo (n + 1)) (h : ∀ m st', SB st₁ lo (lo + nrem) st' → 1 ≤ m → m ≤ nrem → Asc key (arrOf st') lo m → Q (some m) st') :
    wpS (model prog w) A E s (descPartL lo n nrem) Q st := by
  unfold descPartL
  refine wpS_bind (wpS_lift (wpAny_rule ⟨rfl, ?_⟩))
  refine wpS_bind (wpS_descL C hκ hS hn (by (first | exact ar59 | lia)) hnn hB hs fun m neq st' hB' hm1 hm2 hs' hq he => ?_)
  dsimp only
  have hsz : lo + m ≤ (arrOf st').size := by rw [hB'.size]; (first | exact ar41 hn hm2 | lia)
  by_cases hneq : neq > 0
  · rw [if_pos hneq]
    refine wpS_bind (wpS_reverse (wpS_tailL C hκ hS hn (by (first | exact ar76 hm1 | lia)) hm2 (hB'.mirror (by (first | exact ar99 hq | lia)) (by (first | exact ar38 hm2 | lia)) hsz) ?_ h))
    intro i j hl hij hj
    show lle (kk key (mirror (arrOf st') _ _ _) j) (kk key (mirror (arrOf st') _ _ _) i)
    rw [kk_mirror_equal hsz he, kk_mirror_equal hsz he]
    exact hs' i j hl hij hj
  · rw [if_neg hneq]
    exact wpS_tailL C hκ hS hn (by (first | exact ar76 hm1 | lia)) hm2 hB' hs' h
theorem wpS_countRunL (C : CmpOk prog w A s κ S key) {st : SortSt} (hκ : kindOf st = κ) (hS : ∀ x ∈ (arrOf st).toList, S x) {Q : Option Nat → SortSt → Prop} (hn : lo + nrem ≤ (arrOf st).size) (h1 : 1 ≤ nrem)
    (h : ∀ m st', SB st lo (lo + nrem) st' → 1 ≤ m → m ≤ nrem → Asc key (arrOf st') lo m → Q (some m) st') :
    wpS (model prog w) A E s (countRun' lo nrem) Q st := by
  rw [countRunL_eq]
  have hB := SB.refl st lo (lo + nrem)
  refine wpS_bind (wpS_ascL C hκ hS hn (Nat.le_refl 1) h1 hB (fun i j hl hij hj => by have : i = j := (by (first | exact ar393 hl hij hj | lia)); subst this; exact lle_refl _) fun n hn1 hn2 hsn hor => ?_)
  dsimp only
  by_cases hnn : n = nrem
  · rw [if_pos (by simpa using hnn)]
    exact wpS_pure (h n st hB hn1 hn2 hsn)
  · rw [if_neg (by simpa using hnn)]
    have hlt : llt (kk key (arrOf st) (lo + n)) (kk key (arrOf st) (lo + n - 1)) = true := hor.resolve_left hnn
    by_cases hgt : n > 1
    · rw [if_pos hgt]
      refine wpS_bind (wpS_ltK' C hκ hS hB (by (first | exact ar355 hn h1 | lia)) (by lia) ?_)
      cases hrose : llt (kk key (arrOf st) lo) (kk key (arrOf st) (lo + n - 1))
      case true =>
        simp only [if_true]
        exact wpS_pure (h n st hB hn1 hn2 hsn)
      case false =>
        simp only [Bool.false_eq_true, if_false]
        have hsz : lo + n ≤ (arrOf st).size := by (first | exact ar41 hn hn2 | lia)
        have hall : ∀ k, lo ≤ k → k < lo + n → kk key (arrOf st) k = kk key (arrOf st) (lo + n - 1) := by
          intro k hlk hk
          have a1 := hsn lo k (Nat.le_refl _) hlk hk
          have a2 := hsn k (lo + n - 1) hlk (by (first | exact ar362 hk | lia)) (by (first | exact ar261 hn1 | lia))
          exact lle_antisymm a2 (lle_trans hrose a1)
        refine wpS_bind (wpS_reverse (wpS_descPartL C hκ hS hn (by (first | exact ar323 hn2 hnn | lia)) (hB.mirror (by (first | exact ar24 | lia)) (by (first | exact ar38 hn2 | lia)) hsz) ?_ h))
        intro i j hl hij hj
        show lle (kk key (mirror (arrOf st) _ _ _) j) (kk key (mirror (arrOf st) _ _ _) i)
        rw [kk_mirror_equal hsz hall, kk_mirror_equal hsz hall]
        by_cases hjn : j < lo + n
        · rw [hall i (by (first | exact ar1 hl | lia)) (by (first | exact ar425 hij hjn | lia)), hall j (by (first | exact ar389 hl hij | lia)) hjn]; exact lle_refl _
        · have hj' : j = lo + n := by (first | exact ar18 hj hjn | lia)
          subst hj'
          by_cases hi' : i = lo + n
          · subst hi'; exact lle_refl _
          · rw [hall i (by (first | exact ar1 hl | lia)) (by (first | exact ar377 hij hi' | lia))]; exact lle_of_llt hlt
    · rw [if_neg hgt]
      have hn1' : n = 1 := by (first | exact ar215 hn1 hgt | lia)
      subst hn1'
      refine wpS_descPartL C hκ hS hn (by (first | exact ar214 h1 hnn | lia)) hB ?_ h
      intro i j hl hij hj
      by_cases hi' : i = j
      · subst hi'; exact lle_refl _
      · have hi0 : i = lo := by lia
        have hj1 : j = lo + 1 := by lia
        subst hi0; subst hj1
        exact lle_of_llt hlt
theorem mid2 {l r : Nat} (h : l < r) : l ≤ (l + r) / 2 ∧ (l + r) / 2 < r := ⟨(Nat.le_div_iff_mul_le (by decide)).mpr (by rw [Nat.mul_two]; exact Nat.add_le_add_left (Nat.le_of_lt h) l), Nat.div_lt_of_lt_mul (by rw [Nat.two_mul]; exact Nat.add_lt_add_right h r)⟩
theorem wpS_binarySortL (C : CmpOk prog w A s κ S key) (hκ : kindOf st₁ = κ) (hS : ∀ x ∈ (arrOf st₁).toList, S x) {st : SortSt} {n ok hi : Nat} {Q : Bool → SortSt → Prop} (hhi : hi ≤ (arrOf st₁).size) (hn : lo + n ≤ hi) (hok : ok ≤ n) (hB : SB st₁ lo hi st) (hs : Asc key (arrOf st) lo ok)
    (h : ∀ st', SB st₁ lo hi st' → Asc key (arrOf st') lo n → Q true st') : wpS (model prog w) A E s (binarySort' lo n ok) Q st := by
  rw [binarySort'_eq]
  refine wpS_bind (wpS_mono (wpS_forRange (I := fun k c st' => c = (none, ()) ∧ SB st₁ lo hi st' ∧ Asc key (arrOf st') lo (min k n))
    (Q := fun c st' => c = (none, ()) ∧ SB st₁ lo hi st' ∧ Asc key (arrOf st') lo n) ?step ?fin ?init) ?post)
  case post =>
    intro c st' hp2_
    obtain ⟨rfl, hB', hs'⟩ := hp2_
    exact wpS_pure (h st' hB' hs')
  case init =>
    refine ⟨rfl, hB, fun i j hl hij hj => ?_⟩
    by_cases h1 : ok = 0
    · have : i = j := by lia
      subst this; exact lle_refl _
    · exact hs i j hl hij (by lia)
  case fin =>
    intro c st' hp2_
    obtain ⟨hc, hB', hs'⟩ := hp2_
    refine ⟨hc, hB', ?_⟩
    rwa [show min (max (max ok 1) n) n = n by (first | exact ar252 | lia)] at hs'
  case step =>
    intro k c st' hak hkn hp5_
    obtain ⟨rfl, hB', hs'⟩ := hp5_
    rw [show min k n = k by (first | exact ar297 hkn | lia)] at hs'
    have hk : lo + k < (arrOf st₁).size := by (first | exact ar449 hhi hn hkn | lia)
    refine wpS_bind (wpS_mono (wpS_forRange (I := fun x c st'' => st'' = st' ∧ ∃ l r, c = (none, l, r) ∧ l ≤ r ∧ r ≤ k ∧ r - l ≤ k - x ∧
        (∀ i, i < l → lle (kk key (arrOf st') (lo + i)) (kk key (arrOf st') (lo + k))) ∧ (∀ i, r ≤ i → i < k → llt (kk key (arrOf st') (lo + k)) (kk key (arrOf st') (lo + i)) = true))
      (Q := fun c st'' => st'' = st' ∧ ∃ l r, c = (none, l, r) ∧ l ≤ k ∧
        (∀ i, i < l → lle (kk key (arrOf st') (lo + i)) (kk key (arrOf st') (lo + k))) ∧ (∀ i, l ≤ i → i < k → llt (kk key (arrOf st') (lo + k)) (kk key (arrOf st') (lo + i)) = true)) ?istep ?ifin ?iinit) ?ipost)
    case iinit => exact ⟨rfl, 0, k, rfl, by (first | exact ar58 | lia), by (first | exact ar24 | lia), by (first | exact ar197 | lia), fun i hi => by lia, fun i h1 h2 => by lia⟩
    case ifin =>
      intro c st'' hp2_
      refine Mine.byv fun P_ kP_ => ?_
      obtain ⟨rfl, l, r, rfl, hlr, hrk, hm, hlo, hhi⟩ := hp2_
      refine kP_ ?_
      clear kP_ P_
      have : l = r := by (first | exact ar108 hlr hm | lia)
      subst this
      exact ⟨rfl, l, l, rfl, hrk, hlo, hhi⟩
    case istep =>
      intro x c st'' _ hxk hp5_
      refine Mine.byv fun P_ kP_ => ?_
      obtain ⟨rfl, l, r, rfl, hlr, hrk, hm, hlo, hhi⟩ := hp5_
      refine kP_ ?_
      clear kP_ P_
      dsimp only
      by_cases hge : l ≥ r
      · rw [if_pos hge]
        have : l = r := by (first | exact ar92 hlr hge | lia)
        subst this
        exact wpS_pure ⟨rfl, l, l, rfl, hrk, hlo, hhi⟩
      · rw [if_neg hge]
        have hm2 := mid2 (Nat.lt_of_not_le hge)
        generalize (l + r) / 2 = m at hm2 ⊢
        have m1 := hm2.1
        have m2 := hm2.2
        have mk := Nat.lt_of_lt_of_le m2 hrk
        refine wpS_bind (wpS_ltK' C hκ hS hB' hk (Nat.lt_trans (Nat.add_lt_add_left mk lo) hk) ?_)
        cases hless : llt (kk key (arrOf st'') (lo + k)) (kk key (arrOf st'') (lo + m))
        case true =>
          simp only [if_true]
          refine wpS_pure ⟨rfl, l, m, rfl, m1, Nat.le_of_lt mk, by (first | exact ar122 hm hm2 | lia), hlo, fun i h1 h2 => ?_⟩
          exact llt_lle hless (hs' (lo + m) (lo + i) (Nat.le_add_right _ _) (Nat.add_le_add_left h1 lo) (Nat.add_lt_add_left h2 lo))
        case false =>
          simp only [Bool.false_eq_true, if_false]
          refine wpS_pure ⟨rfl, m + 1, r, rfl, m2, hrk, by (first | exact ar121 hm hm2 | lia), fun i h1 => ?_, hhi⟩
          exact lle_trans (hs' (lo + i) (lo + m) (Nat.le_add_right _ _) (Nat.add_le_add_left (Nat.le_of_lt_succ h1) lo) (Nat.add_lt_add_left mk lo)) hless
    case ipost =>
      intro c st'' hp2_
      refine Mine.byv fun P_ kP_ => ?_
      obtain ⟨rfl, l, r, rfl, hlk, hlo, hhi⟩ := hp2_
      refine kP_ ?_
      clear kP_ P_
      show wpS _ _ _ _ (do moveDown' (lo + k) (lo + l); pure (ForInStep.yield (none, ()))) _ _
      rw [moveDown'_eq]
      have hks : lo + k < (arrOf st'').size := by rw [hB'.size]; exact hk
      refine wpS_bind (wpS_modify (wpS_pure ⟨rfl, hB'.bubble (by lia) (by (first | exact ar2 hn hkn | lia)) hks, ?_⟩))
      rw [show min (k + 1) n = k + 1 by (first | exact ar296 hkn | lia)]
      intro i j hl hij hj
      show lle (kk key (bubble (arrOf st'') (lo + k) (lo + k - (lo + l))) i) (kk key (bubble (arrOf st'') (lo + k) (lo + k - (lo + l))) j)
      rw [kk_bubble hks (by (first | exact ar94 | lia)), kk_bubble hks (by (first | exact ar94 | lia)), show lo + k - (lo + k - (lo + l)) = lo + l by lia]
      have hlo' : ∀ q, lo ≤ q → q < lo + l → lle (kk key (arrOf st'') q) (kk key (arrOf st'') (lo + k)) := fun q h1 h2 => by
        have := hlo (q - lo) (by (first | exact ar388 h1 h2 | lia))
        rwa [show lo + (q - lo) = q by (first | exact ar316 h1 | lia)] at this
      have hhi' : ∀ q, lo + l ≤ q → q < lo + k → llt (kk key (arrOf st'') (lo + k)) (kk key (arrOf st'') q) = true := fun q h1 h2 => by
        have := hhi (q - lo) (by (first | exact ar354 h1 | lia)) (by lia)
        rwa [show lo + (q - lo) = q by (first | exact ar352 h1 | lia)] at this
      repeat' split
      all_goals first
        | (exfalso; lia)
        | exact lle_refl _
        | exact hlo' _ (by lia) (by lia)
        | exact lle_of_llt (hhi' _ (by lia) (by lia))
        | exact hs' _ _ (by lia) (by lia) (by lia)
end
theorem writeBack : ∀ (l : List Keyed) (k sa : Nat) (arr : Array Keyed), sa + k + l.length ≤ arr.size →
    ((l.zipIdx k).foldl (fun a (x : Keyed × Nat) => a.setIfInBounds (sa + x.2) x.1) arr).toList = arr.toList.take (sa + k) ++ (l ++ arr.toList.drop (sa + k + l.length))
  | [], k, sa, arr, _ => by simp
  | x :: l, k, sa, arr, h => by
    rw [List.length_cons] at h
    rw [List.zipIdx_cons, List.foldl_cons, writeBack l (k + 1) sa _ (by rw [Array.size_setIfInBounds]; (first | exact ar404 h | lia))]
    dsimp only
    rw [Array.toList_setIfInBounds, List.drop_set_of_lt (by (first | exact ar341 | lia)), List.length_cons, show sa + (k + 1) = sa + k + 1 by (first | exact ar246 | lia), List.take_add_one, List.take_set, List.getElem?_set_self (by simp; (first | exact ar405 h | lia)), List.set_eq_of_length_le (by simp; (first | exact ar342 | lia))]
    simp [show sa + k + 1 + l.length = sa + k + (l.length + 1) by (first | exact ar338 | lia)]
section
variable {prog : Program} {w : World} {A : Around} {E : Value → Shared → Prop} {s : Shared} {κ : SortKind} {S : Keyed → Prop} {key : Keyed → List Int} {st : SortSt}
theorem wpS_set {Q : PUnit → SortSt → Prop} {st' : SortSt} (h : Q ⟨⟩ st') : wpS (model prog w) A E s (set st' : StateT SortSt Sem PUnit) Q st := by
  unfold wpS; rw [StateT.run_set]; exact wpAny_pure ⟨rfl, h⟩
theorem arr_set (st : SortSt) (p : Array (Nat × Nat × Nat)) : arrOf (setPending st p) = arrOf st := rfl
theorem wpS_mergeAt (C : CmpOk prog w A s κ S key) (hκ : kindOf st = κ) (hf : failedOf st = none) (hS : ∀ x ∈ (arrOf st).toList, S x) {i p q : Nat} {pre a b post : List Keyed} {Q : Bool → SortSt → Prop}
    (e1 : (pendingOf st)[i]? = some (pre.length, a.length, p)) (e2 : (pendingOf st)[i + 1]? = some (pre.length + a.length, b.length, q)) (harr : (arrOf st).toList = pre ++ (a ++ (b ++ post)))
    (ha : 0 < a.length) (hb : 0 < b.length) (hA : a.Pairwise (LE key)) (hB : b.Pairwise (LE key))
    (h : ∀ (st' : SortSt) m, PyProof.Rows.kindOf st' = κ → failedOf st' = none → pendingOf st' = ((pendingOf st).setIfInBounds i (pre.length, a.length + b.length, p)).eraseIdxIfInBounds (i + 1) → (arrOf st').toList = pre ++ (m ++ post) → Merged key a b m → Q true st') :
    wpS (model prog w) A E s (mergeAt' i) Q st := by
  rw [mergeAt'_eq]
  refine wpS_bind (wpS_get ?_)
  rw [e1, e2]
  dsimp only
  refine wpS_bind (wpS_set ?_)
  have hsz : (arrOf st).size = pre.length + (a.length + (b.length + post.length)) := by
    rw [← Array.length_toList, harr]; simp
  have hga : ((arrOf st).toList.drop pre.length) = a ++ (b ++ post) := by rw [harr, List.drop_left]
  have hgb : ((arrOf st).toList.drop (pre.length + a.length)) = b ++ post := by rw [harr, ← List.append_assoc, ← List.length_append, List.drop_left]
  have hb0 : (arrOf st)[pre.length + a.length]'(by (first | exact ar42 hb hsz | lia)) = b[0] := by
    have := congrArg (·[0]?) hgb
    simp only [List.getElem?_drop, Nat.add_zero, Array.getElem?_toList] at this
    rw [getElem?_pos _ _ (by (first | exact ar42 hb hsz | lia)), List.getElem?_append_left hb, List.getElem?_eq_getElem hb] at this
    exact Option.some.inj this
  refine wpS_bind (wpS_elem (by (first | exact ar42 hb hsz | lia)) ?_)
  rw [hb0]
  have hSb : ∀ x ∈ b, S x := fun x hx => hS x (by rw [harr]; simp [hx])
  have hSa : ∀ x ∈ a, S x := fun x hx => hS x (by rw [harr]; simp [hx])
  have hta : ((arrOf st).toList.drop pre.length).take a.length = a := by rw [hga, List.take_left]
  have htb : ((arrOf st).toList.drop (pre.length + a.length)).take b.length = b := by rw [hgb, List.take_left]
  refine wpS_bind (wpS_gallopR C (st := setPending st _) (by exact hκ) (hSb _ (List.getElem_mem _)) hS (by rw [hta]; exact hA) (by (first | exact ar443 hsz | lia)) ha fun k hk h1 h2 => ?_)
  rw [hta] at h2
  rw [hga, List.take_append_of_le_length hk] at h1
  dsimp only
  have sorted_ab : (∀ x ∈ a, ∀ y ∈ b, LE key x y) → Merged key a b (a ++ b) := fun hx => ⟨List.Perm.refl _, List.pairwise_append.mpr ⟨hA, hB, hx⟩⟩
  have b0 : ∀ y ∈ b, LE key b[0] y := by
    have := le_drop hB hb
    rwa [List.drop_zero] at this
  by_cases hna : a.length - k = 0
  · rw [if_pos (by simpa using hna)]
    have hk' : k = a.length := by (first | exact ar321 hk hna | lia)
    rw [hk', List.take_of_length_le (Nat.le_refl _)] at h1
    exact wpS_pure (h _ (a ++ b) hκ hf rfl (by rw [List.append_assoc]; exact harr) (sorted_ab fun x hx y hy => LE.trans (h1 x hx) (b0 y hy)))
  rw [if_neg (by simpa using hna)]
  have hal : (arrOf st)[pre.length + k + (a.length - k) - 1]'(by (first | exact ar123 ha hsz hk | lia)) = a[a.length - 1] := by
    have := congrArg (·[a.length - 1]?) hga
    simp only [List.getElem?_drop, Array.getElem?_toList] at this
    rw [getElem?_pos _ _ (by lia), List.getElem?_append_left (by (first | exact ar25 ha | lia)), List.getElem?_eq_getElem (by (first | exact ar25 ha | lia))] at this
    rw [← Option.some.inj this]
    congr 1; lia
  refine wpS_bind (wpS_elem (by (first | exact ar123 ha hsz hk | lia)) ?_)
  rw [hal]
  refine wpS_bind (wpS_gallopL C (st := setPending st _) (by exact hκ) (hSa _ (List.getElem_mem _)) hS (by rw [htb]; exact hB) (by (first | exact ar442 hsz | lia)) (by (first | exact ar25 hb | lia)) fun r hr h3 h4 => ?_)
  rw [htb] at h4
  rw [hgb, List.take_append_of_le_length hr] at h3
  dsimp only
  have la : ∀ x ∈ a, LE key x a[a.length - 1] := by
    have := take_le hA ha (Nat.le_refl _)
    rwa [List.take_of_length_le (Nat.le_refl _)] at this
  by_cases hr0 : r = 0
  · rw [if_pos (by simpa using hr0)]
    rw [hr0, List.drop_zero] at h4
    exact wpS_pure (h _ (a ++ b) hκ hf rfl (by rw [List.append_assoc]; exact harr) (sorted_ab fun x hx y hy => LE.trans (la x hx) (h4 y hy)))
  rw [if_neg (by simpa using hr0)]
  have hx : ((arrOf st).extract (pre.length + k) (pre.length + a.length)).toList = a.drop k := by
    rw [Array.toList_extract, List.extract_eq_take_drop, ← List.drop_drop, hga, List.drop_append_of_le_length hk, show pre.length + a.length - (pre.length + k) = (a.drop k).length by simp; (first | exact ar340 | lia), List.take_left]
  have hy : ((arrOf st).extract (pre.length + a.length) (pre.length + a.length + r)).toList = b.take r := by
    rw [Array.toList_extract, List.extract_eq_take_drop, hgb, show pre.length + a.length + r - (pre.length + a.length) = r by (first | exact ar339 | lia), List.take_append_of_le_length hr]
  rw [arr_set] at *
  generalize hX : (arrOf st).extract (pre.length + k) (pre.length + a.length) = X at hx
  generalize hY : (arrOf st).extract (pre.length + a.length) (pre.length + a.length + r) = Y at hy
  have hXs : X.size = a.length - k := by rw [← Array.length_toList, hx, List.length_drop]
  have hYs : Y.size = r := by rw [← Array.length_toList, hy, List.length_take]; (first | exact ar91 hr | lia)
  have hXl : X[X.size - 1]'(by (first | exact ar39 hna hXs | lia)) = a[a.length - 1] := by
    rw [← Array.getElem_toList]
    simp only [hx, List.getElem_drop]
    congr 1; lia
  have hY0 : Y[0]'(by (first | exact ar17 hr0 hYs | lia)) = b[0] := by
    rw [← Array.getElem_toList]
    simp only [hy, List.getElem_take]
  have hXS : ∀ x ∈ X.toList, S x := fun x hx' => hSa x (List.mem_of_mem_drop (hx ▸ hx'))
  have hYS : ∀ x ∈ Y.toList, S x := fun x hx' => hSb x (List.mem_of_mem_take (hy ▸ hx'))
  have hXp : X.toList.Pairwise (LE key) := by rw [hx]; exact hA.sublist (List.drop_sublist _ _)
  have hYp : Y.toList.Pairwise (LE key) := by rw [hy]; exact hB.sublist (List.take_sublist _ _)
  have hfst : ∀ x ∈ X.toList, LE key (Y[0]'(by (first | exact ar17 hr0 hYs | lia))) x := fun x hx' => by
    rw [hY0]; exact lle_of_llt (h2 x (hx ▸ hx'))
  have hlst : ∀ y ∈ Y.toList, LE key y (X[X.size - 1]'(by (first | exact ar39 hna hXs | lia))) := fun y hy' => by
    rw [hXl]; exact lle_of_llt (h3 y (hy ▸ hy'))
  have post' : ∀ (m : Array Keyed) st', SameG (setPending st (((pendingOf st).setIfInBounds i (pre.length, a.length + b.length, p)).eraseIdxIfInBounds (i + 1))) st' → Merged key X.toList Y.toList m.toList →
      Q true (setArr st' (m.toList.zipIdx.foldl (fun a (x : Keyed × Nat) => a.setIfInBounds (pre.length + k + x.2) x.1) (arrOf st'))) := fun m st' hG hM => by
    refine Mine.byv fun P_ kP_ => ?_
    obtain ⟨g1, g2, g3, g4⟩ := hG
    refine kP_ ?_
    clear kP_ P_
    have hml : m.toList.length = a.length - k + r := by
      rw [hM.1.length_eq, List.length_append, Array.length_toList, Array.length_toList, hXs, hYs]
    refine h _ (a.take k ++ (m.toList ++ b.drop r)) (g1.trans hκ) (g4.trans hf) g3 ?_ ⟨?_, ?_⟩
    · show (m.toList.zipIdx.foldl _ (arrOf st')).toList = _
      rw [writeBack _ _ _ _ (by rw [g2]; show _ ≤ (arrOf st).size; lia), g2]
      show (arrOf st).toList.take _ ++ (_ ++ (arrOf st).toList.drop _) = _
      rw [show pre.length + k + 0 + m.toList.length = pre.length + a.length + r by lia, ← List.drop_drop, hgb, List.drop_append_of_le_length hr, harr, Nat.add_zero, List.take_append, List.take_of_length_le (by (first | exact ar12 | lia)), show pre.length + k - pre.length = k by (first | exact ar250 | lia), List.take_append_of_le_length hk]
      simp only [List.append_assoc]
    · have : (a.take k ++ (m.toList ++ b.drop r)).Perm (a.take k ++ ((a.drop k ++ b.take r) ++ b.drop r)) := List.Perm.append_left _ (List.Perm.append_right _ (by have := hM.1; rwa [hx, hy] at this))
      refine this.trans (.of_eq ?_)
      rw [List.append_assoc, List.take_append_drop, ← List.append_assoc, List.take_append_drop]
    · have hm : ∀ x ∈ m.toList, x ∈ a.drop k ∨ x ∈ b.take r := fun x hx' => by
        have := hM.1.mem_iff.mp hx'
        rwa [hx, hy, List.mem_append] at this
      have hAp : ∀ x ∈ a.take k, ∀ y ∈ a.drop k, LE key x y := by
        have := hA
        rw [← List.take_append_drop k a, List.pairwise_append] at this
        exact this.2.2
      have hBp : ∀ x ∈ b.take r, ∀ y ∈ b.drop r, LE key x y := by
        have := hB
        rw [← List.take_append_drop r b, List.pairwise_append] at this
        exact this.2.2
      refine List.pairwise_append.mpr ⟨hA.sublist (List.take_sublist _ _), List.pairwise_append.mpr ⟨hM.2, hB.sublist (List.drop_sublist _ _), fun x hx' y hy' => ?_⟩, fun x hx' y hy' => ?_⟩
      · rcases hm x hx' with hx' | hx'
        · exact LE.trans (la x (List.mem_of_mem_drop hx')) (h4 y hy')
        · exact hBp x hx' y hy'
      · rcases List.mem_append.mp hy' with hy' | hy'
        · rcases hm y hy' with hy' | hy'
          · exact hAp x hx' y hy'
          · exact LE.trans (h1 x hx') (b0 y (List.mem_of_mem_take hy'))
        · exact LE.trans (h1 x hx') (b0 y (List.mem_of_mem_drop hy'))
  refine wpS_ite (fun _ => ?_) fun _ => ?_
  · refine wpS_bind (wpS_mergeLo C (st := setPending st _) (by exact hκ) hXS hYS hXp hYp (by (first | exact ar111 hna hXs | lia)) (by (first | exact ar17 hr0 hYs | lia)) hfst (fun y hy' x hx' => ?_) fun m st' hG hM => ?_)
    · rw [List.drop_eq_getElem_cons (by simp; (first | exact ar39 hna hXs | omega)), List.drop_of_length_le (by simp; (first | exact ar202 | omega)), List.mem_singleton] at hx'
      subst hx'
      simpa using hlst y hy'
    · refine wpS_bind (wpS_modify (wpS_bind (wpS_get (wpS_pure ?_))))
      have : failedOf st' = none := hG.2.2.2.trans hf
      show Q (failedOf st').isNone _
      rw [this]
      exact post' m st' hG hM
  · refine wpS_bind (wpS_mergeHi C (st := setPending st _) (by exact hκ) hXS hYS hXp hYp (by (first | exact ar111 hna hXs | lia)) (by (first | exact ar17 hr0 hYs | lia)) hfst hlst fun m st' hG hM => ?_)
    refine wpS_bind (wpS_modify (wpS_bind (wpS_get (wpS_pure ?_))))
    have : failedOf st' = none := hG.2.2.2.trans hf
    show Q (failedOf st').isNone _
    rw [this]
    exact post' m st' hG hM
end
/-- the pending runs stand one behind the other from s on -/
noncomputable def Runs : List (Nat × Nat × Nat) → List (List Keyed) → Nat → Prop
  | [], [], _ => True
  | p :: ps, l :: ls, s => p.1 = s ∧ p.2.1 = l.length ∧ 0 < l.length ∧ Runs ps ls (s + l.length)
  | _, _, _ => False
theorem Runs.len : ∀ {ps ls s}, Runs ps ls s → ps.length = ls.length
  | [], [], _, _ => rfl
  | _ :: ps, _ :: ls, _, h => by rw [List.length_cons, List.length_cons, Runs.len h.2.2.2]
  | [], _ :: _, _, h => h.elim
  | _ :: _, [], _, h => h.elim
theorem Runs.count : ∀ {ps ls s}, Runs ps ls s → ls.length ≤ ls.flatten.length
  | [], [], _, _ => by simp
  | _ :: ps, l :: ls, _, h => by
    have := Runs.count h.2.2.2
    have := h.2.2.1
    simp only [List.length_cons, List.flatten_cons, List.length_append]; (first | exact ar385 (by assumption) this | lia)
  | [], _ :: _, _, h => h.elim
  | _ :: _, [], _, h => h.elim
theorem Runs.push : ∀ {ps ls s n p} {l : List Keyed}, Runs ps ls s → n = l.length → 0 < l.length → Runs (ps ++ [(s + ls.flatten.length, n, p)]) (ls ++ [l]) s
  | [], [], _, _, _, l, _, e, h => ⟨by simp, e, h, trivial⟩
  | _ :: ps, l' :: ls, s, n, p, l, h, e, hl => by
    refine ⟨h.1, h.2.1, h.2.2.1, ?_⟩
    have := Runs.push (p := p) h.2.2.2 e hl
    rwa [show s + l'.length + ls.flatten.length = s + (l' :: ls).flatten.length by simp; (first | exact ar93 | lia)] at this
  | [], _ :: _, _, _, _, _, h, _, _ => h.elim
  | _ :: _, [], _, _, _, _, h, _, _ => h.elim
theorem Runs.modify {f : Nat × Nat × Nat → Nat × Nat × Nat} (hf : ∀ x, (f x).1 = x.1 ∧ (f x).2.1 = x.2.1) : ∀ {ps ls s} (i : Nat), Runs ps ls s → Runs (ps.modify i f) ls s
  | [], [], _, i, _ => by cases i <;> exact trivial
  | p :: ps, l :: ls, _, 0, h => by
    rw [List.modify_zero_cons]
    exact ⟨(hf p).1.trans h.1, (hf p).2.trans h.2.1, h.2.2.1, h.2.2.2⟩
  | p :: ps, l :: ls, _, i + 1, h => by
    rw [List.modify_succ_cons]
    exact ⟨h.1, h.2.1, h.2.2.1, Runs.modify hf i h.2.2.2⟩
  | [], _ :: _, _, _, h => h.elim
  | _ :: _, [], _, _, h => h.elim
/-- two neighbours looked up -/
theorem Runs.two : ∀ {ps ls s} (i : Nat), Runs ps ls s → i + 1 < ps.length → ∃ L1 a b L2 p q, ls = L1 ++ (a :: b :: L2) ∧ ps[i]? = some (s + L1.flatten.length, a.length, p) ∧ ps[i + 1]? = some (s + L1.flatten.length + a.length, b.length, q) ∧ 0 < a.length ∧ 0 < b.length ∧
    ∀ m : List Keyed, m.length = a.length + b.length → Runs ((ps.set i (s + L1.flatten.length, a.length + b.length, p)).eraseIdx (i + 1)) (L1 ++ (m :: L2)) s
  | p :: q :: ps, a :: b :: ls, s, 0, h, _ => by
    refine Mine.byv fun P_ kP_ => ?_
    obtain ⟨p1, p2, p3⟩ := p
    obtain ⟨q1, q2, q3⟩ := q
    obtain ⟨e1, e2, h1, f1, f2, h2, h3⟩ := h
    refine kP_ ?_
    clear kP_ P_
    dsimp only at e1 e2 f1 f2
    subst e1 e2 f1 f2
    refine ⟨[], a, b, ls, p3, q3, rfl, by simp, by simp, h1, h2, fun m hm => ?_⟩
    simp only [List.set_cons_zero, List.eraseIdx_cons_succ, List.eraseIdx_cons_zero, List.nil_append]
    refine ⟨by simp, hm.symm, by (first | exact ar343 h1 hm | lia), ?_⟩
    rwa [hm, ← Nat.add_assoc]
  | p :: ps, l :: ls, s, i + 1, h, hi => by
    refine Mine.byv fun P_ kP_ => ?_
    obtain ⟨L1, a, b, L2, p', q', e, h1, h2, ha, hb, hm⟩ := Runs.two i h.2.2.2 (by simpa using hi)
    refine kP_ ?_
    clear kP_ P_
    refine ⟨l :: L1, a, b, L2, p', q', by rw [e]; rfl, ?_, ?_, ha, hb, fun m hm' => ?_⟩
    · rw [List.getElem?_cons_succ, h1]; simp [Nat.add_assoc]
    · rw [List.getElem?_cons_succ, h2]; simp [Nat.add_assoc]
    · have := hm m hm'
      rw [List.set_cons_succ, List.eraseIdx_cons_succ]
      refine ⟨h.1, h.2.1, h.2.2.1, ?_⟩
      simpa [Nat.add_assoc] using this
  | [], _, _, _, _, hi => by simp at hi
  | [_], _, _, 0, _, hi => by simp at hi
  | _ :: _ :: _, [_], _, 0, h, _ => h.2.2.2.elim
  | _ :: _, [], _, _, h, _ => h.elim
section
variable {key : Keyed → List Int}
theorem asc_pw {xs : Array Keyed} {lo k : Nat} (h : Asc key xs lo k) (hs : lo + k ≤ xs.size) : ((xs.toList.drop lo).take k).Pairwise (LE key) := by
  rw [List.pairwise_iff_getElem]
  intro i j hi hj hij
  have hj' : j < k := by rw [List.length_take] at hj; (first | exact ar105 hj | lia)
  have := h (lo + i) (lo + j) (by (first | exact ar12 | lia)) (by (first | exact ar103 hij | lia)) (by (first | exact ar365 hj' | lia))
  unfold kk at this
  rw [getElem?_pos xs _ (by (first | exact ar441 hs hij hj' | lia)), getElem?_pos xs _ (by (first | exact ar2 hs hj' | lia))] at this
  simpa [LE] using this
structure RunsAt (key : Keyed → List Int) (κ : SortKind) (arr₀ : Array Keyed) (lo : Nat) (st : SortSt) (segs : List (List Keyed)) (rest : List Keyed) : Prop where
  arr : (arrOf st).toList = segs.flatten ++ rest
  lo : segs.flatten.length = lo
  runs : Runs (pendingOf st).toList segs 0
  sorted : ∀ l ∈ segs, l.Pairwise (LE key)
  perm : (arrOf st).toList.Perm arr₀.toList
  kind : kindOf st = κ
  failed : failedOf st = none
end
section
variable {prog : Program} {w : World} {A : Around} {E : Value → Shared → Prop} {s : Shared} {κ : SortKind} {S : Keyed → Prop} {key : Keyed → List Int} {st : SortSt}
theorem RunsAt.merge (C : CmpOk prog w A s κ S key) {arr₀ : Array Keyed} (hS : ∀ x ∈ arr₀.toList, S x) {lo i : Nat} {segs : List (List Keyed)} {rest : List Keyed} {Q : Bool → SortSt → Prop} (R : RunsAt key κ arr₀ lo st segs rest) (hi : i + 1 < (pendingOf st).size)
    (h : ∀ st' segs', RunsAt key κ arr₀ lo st' segs' rest → segs'.length + 1 = segs.length → Q true st') : wpS (model prog w) A E s (mergeAt' i) Q st := by
  refine Mine.byv fun P_ kP_ => ?_
  obtain ⟨L1, a, b, L2, p, q, e, e1, e2, ha, hb, hm⟩ := R.runs.two i (by simpa using hi)
  refine kP_ ?_
  clear kP_ P_
  have hr := R.arr
  rw [Array.getElem?_toList] at e1 e2
  rw [Nat.zero_add] at e1 e2 hm
  have harr : (arrOf st).toList = L1.flatten ++ (a ++ (b ++ (L2.flatten ++ rest))) := by rw [hr, e]; simp [List.append_assoc]
  refine wpS_mergeAt C R.kind R.failed (fun x hx => hS x (R.perm.mem_iff.mp hx)) e1 e2 harr ha hb (R.sorted a (by rw [e]; simp)) (R.sorted b (by rw [e]; simp)) fun st' m g1 g2 g3 g4 hM => ?_
  have hml : m.length = a.length + b.length := by rw [hM.1.length_eq, List.length_append]
  refine h st' (L1 ++ (m :: L2)) ⟨by rw [g4]; simp [List.append_assoc], ?_, ?_, ?_, ?_, g1, g2⟩ (by rw [e]; simp; (first | exact ar244 | lia))
  · rw [← R.lo, e]; simp [hml]; (first | exact ar93 | lia)
  · rw [g3]
    have := hm m hml
    rwa [← Array.toList_setIfInBounds, ← Array.toList_eraseIdxIfInBounds] at this
  · intro l hl
    rcases List.mem_append.mp hl with hl | hl
    · exact R.sorted l (by rw [e]; simp [hl])
    · rcases List.mem_cons.mp hl with rfl | hl
      · exact hM.2
      · exact R.sorted l (by rw [e]; simp [hl])
  · rw [g4]
    refine List.Perm.trans ?_ R.perm
    rw [harr]
    refine List.Perm.append_left _ ?_
    rw [← List.append_assoc a]
    exact List.Perm.append_right _ hM.1
noncomputable abbrev SrC := Option Unit × Nat
noncomputable abbrev SrU := Option Unit × Unit
noncomputable def srFold (pw : Nat) : StateT SortSt Sem (ForInStep SrU) := do
  let st ← get
  let some (_, _, older) := (if (pendingOf st).size > 1 then (pendingOf st)[(pendingOf st).size - 2]? else none) | return .done (none, ())
  if older ≤ pw then return .done (none, ())
  if !(← mergeAt' ((pendingOf st).size - 2)) then return .done (some (), ())
  return .yield (none, ())
noncomputable def srPush (lo n : Nat) : StateT SortSt Sem (ForInStep SrC) := do
  modify fun s => setPending s ((pendingOf s).push (lo, n, 0))
  return .yield (none, lo + n)
noncomputable def srTail (size lo n : Nat) : StateT SortSt Sem (ForInStep SrC) := do
  let st ← get
  match (pendingOf st).back? with
  | some (s1, n1, _) =>
    let c ← forIn [:size] ((none, ()) : SrU) (fun _ _ => srFold (power' size (2 * s1 + n1) (2 * s1 + n1 + n1 + n) size))
    match c.1 with
    | some r => return .done (some r, lo)
    | none =>
      modify fun s => setPending s ((pendingOf s).modify ((pendingOf s).size - 1) fun (st, len, _) => (st, len, power' size (2 * s1 + n1) (2 * s1 + n1 + n1 + n) size))
      srPush lo n
  | _ => srPush lo n
noncomputable def srStep (size lo : Nat) : StateT SortSt Sem (ForInStep SrC) := do
  if lo ≥ size then return .done (none, lo)
  let some found ← countRun' lo (size - lo) | return .done (some (), lo)
  if found < minRun' size size 0 then
    rule "list.sort.binary-insertion"
    if !(← binarySort' lo (min (size - lo) (minRun' size size 0)) found) then return .done (some (), lo)
    srTail size lo (min (size - lo) (minRun' size size 0))
  else srTail size lo found
noncomputable def srEnd : StateT SortSt Sem (ForInStep SrU) := do
  let st ← get
  if (pendingOf st).size ≤ 1 then return .done (none, ())
  if !(← mergeAt' (if (if (pendingOf st).size - 2 > 0 then (pendingOf st)[(pendingOf st).size - 2 - 1]?.map (·.2.1) else none).any (· < ((pendingOf st)[(pendingOf st).size - 2 + 1]?.elim 0 (·.2.1))) then (pendingOf st).size - 2 - 1 else (pendingOf st).size - 2)) then return .done (some (), ())
  return .yield (none, ())
theorem sortRunsP_eq : sortRuns' = (do
  let st ← get
  let c ← forIn [:(arrOf st).size] ((none, 0) : SrC) (fun _ c => srStep (arrOf st).size c.2)
  match c.1 with
  | some r => return r
  | none =>
    let c ← forIn [:(arrOf st).size] ((none, ()) : SrU) (fun _ _ => srEnd)
    match c.1 with
    | some r => return r
    | none => return ()) := by kernel_rfl
theorem RunsAt.push {arr₀ : Array Keyed} {lo : Nat} (n : Nat) (T st3 : SortSt) segs (h1 : 1 ≤ n) (h2 : lo + n ≤ arr₀.size) (hsz2 : (arrOf T).size = arr₀.size) (hs : Asc key (arrOf T) lo n) (R3 : RunsAt key κ arr₀ lo st3 segs ((arrOf T).toList.drop lo)) :
    ∃ segs' rest', RunsAt key κ arr₀ (lo + n) (setPending st3 ((pendingOf st3).push (lo, n, 0))) segs' rest' := by
  have hll : (((arrOf T).toList.drop lo).take n).length = n := by simp; (first | exact ar114 h2 hsz2 | lia)
  refine ⟨segs ++ [((arrOf T).toList.drop lo).take n], ((arrOf T).toList.drop lo).drop n, ?_, by simp [R3.lo]; (first | exact ar114 h2 hsz2 | lia), ?_, ?_, R3.perm, R3.kind, R3.failed⟩
  · show (arrOf st3).toList = _
    rw [R3.arr]
    simp only [List.flatten_append, List.flatten_cons, List.flatten_nil, List.append_nil, List.append_assoc, List.take_append_drop]
  · show Runs ((pendingOf st3).push (lo, n, 0)).toList _ 0
    rw [Array.toList_push]
    have := R3.runs.push (n := n) (p := 0) hll.symm (by (first | exact ar75 h1 hll | lia))
    rwa [R3.lo, Nat.zero_add] at this
  · intro x hx'
    rcases List.mem_append.mp hx' with hx' | hx'
    · exact R3.sorted x hx'
    · rw [List.mem_singleton.mp hx']; exact asc_pw hs (by (first | exact ar409 h2 hsz2 | lia))
theorem RunsAt.base {arr₀ : Array Keyed} {lo : Nat} {rest : List Keyed} {st' : SortSt} {segs : List (List Keyed)} (R : RunsAt key κ arr₀ lo st' segs rest) (st2 : SortSt) (hB : SB st' lo arr₀.size st2) : RunsAt key κ arr₀ lo st2 segs ((arrOf st2).toList.drop lo) := by
  have hr := R.arr
  have htk : (arrOf st2).toList.take lo = segs.flatten := by
    rw [← R.lo]
    refine List.ext_getElem? fun i => ?_
    by_cases hi : i < segs.flatten.length
    · rw [List.getElem?_take_of_lt hi, Array.getElem?_toList, hB.out i (.inl (by rw [← R.lo]; exact hi)), ← Array.getElem?_toList, hr, List.getElem?_append_left hi]
    · rw [List.getElem?_eq_none (by rw [List.length_take]; (first | exact ar396 hi | lia)), List.getElem?_eq_none (by (first | exact ar16 hi | lia))]
  exact ⟨by rw [← htk]; exact (List.take_append_drop _ _).symm, R.lo, by rw [hB.pend]; exact R.runs, R.sorted, (Array.perm_iff_toList_perm.mp hB.perm).trans R.perm, hB.kind.trans R.kind, hB.failed.trans R.failed⟩
theorem wpS_srTail (C : CmpOk prog w A s κ S key) {arr₀ : Array Keyed} (hS : ∀ x ∈ arr₀.toList, S x) {lo N : Nat} {T : SortSt} {segs : List (List Keyed)} {R : ForInStep SrC → SortSt → Prop} (h1 : 1 ≤ N) (h2 : lo + N ≤ arr₀.size) (hsz2 : (arrOf T).size = arr₀.size) (hs : Asc key (arrOf T) lo N) (hR : RunsAt key κ arr₀ lo T segs ((arrOf T).toList.drop lo))
    (go : ∀ st' segs' rest', RunsAt key κ arr₀ (lo + N) st' segs' rest' → R (.yield (none, lo + N)) st') : wpS (model prog w) A E s (srTail arr₀.size lo N) R T := by
  refine wpS_bind (wpS_get ?_)
  cases hbk : (pendingOf T).back? with
  | none =>
    refine wpS_bind (wpS_modify (wpS_pure ?_))
    obtain ⟨segs', rest', R'⟩ := RunsAt.push N T T segs h1 h2 hsz2 hs hR
    exact go _ segs' rest' R'
  | some t =>
    obtain ⟨s1, n1, pw1⟩ := t
    refine wpS_bind (wpS_mono (wpS_forRange (I := fun _ c st3 => c = (none, ()) ∧ ∃ segs, RunsAt key κ arr₀ lo st3 segs ((arrOf T).toList.drop lo))
      (Q := fun c st3 => c = (none, ()) ∧ ∃ segs, RunsAt key κ arr₀ lo st3 segs ((arrOf T).toList.drop lo)) ?cstep (fun _ _ hh => hh) ⟨rfl, segs, hR⟩) ?cpost)
    case cpost =>
      rintro c st3 ⟨rfl, segs, R3⟩
      refine wpS_bind (wpS_modify (wpS_bind (wpS_modify (wpS_pure ?_))))
      have R4 : RunsAt key κ arr₀ lo (setPending st3 ((pendingOf st3).modify ((pendingOf st3).size - 1) fun x => (x.1, x.2.1, power' arr₀.size (2 * s1 + n1) (2 * s1 + n1 + n1 + N) arr₀.size))) segs ((arrOf T).toList.drop lo) := by
        refine ⟨R3.arr, R3.lo, ?_, R3.sorted, R3.perm, R3.kind, R3.failed⟩
        show Runs ((pendingOf st3).modify _ _).toList segs 0
        rw [Array.toList_modify]
        refine Runs.modify ?_ _ R3.runs
        intro x
        exact ⟨rfl, rfl⟩
      obtain ⟨segs', rest', R'⟩ := RunsAt.push N T _ segs h1 h2 hsz2 hs R4
      exact go _ segs' rest' R'
    case cstep =>
      rintro y c st3 _ hy ⟨rfl, segs, R3⟩
      refine wpS_bind (wpS_get ?_)
      by_cases h1' : (pendingOf st3).size > 1
      · rw [if_pos h1']
        cases hl : (pendingOf st3)[(pendingOf st3).size - 2]? with
        | none => exact wpS_pure ⟨rfl, segs, R3⟩
        | some t =>
          obtain ⟨t1, t2, older⟩ := t
          refine wpS_ite (fun _ => wpS_pure ⟨rfl, segs, R3⟩) fun _ => ?_
          refine wpS_bind (R3.merge C hS (by lia) fun st4 segs' R4 _ => ?_)
          exact wpS_pure ⟨rfl, segs', R4⟩
      · rw [if_neg h1']
        exact wpS_pure ⟨rfl, segs, R3⟩
theorem wpS_srStep (C : CmpOk prog w A s κ S key) {arr₀ : Array Keyed} (hS : ∀ x ∈ arr₀.toList, S x) {lo : Nat} {st' : SortSt} {segs : List (List Keyed)} {rest : List Keyed} {R : ForInStep SrC → SortSt → Prop} (hR : RunsAt key κ arr₀ lo st' segs rest)
    (fin : arr₀.size ≤ lo → R (.done (none, lo)) st') (go : ∀ st2 lo' segs' rest', lo < lo' → RunsAt key κ arr₀ lo' st2 segs' rest' → R (.yield (none, lo')) st2) : wpS (model prog w) A E s (srStep arr₀.size lo) R st' := by
  by_cases hge : lo ≥ arr₀.size
  · refine wpS_ite (fun _ => wpS_pure (fin hge)) fun q => absurd hge q
  refine wpS_ite (fun q => absurd q hge) fun _ => ?_
  have hsz : (arrOf st').size = arr₀.size := by rw [← Array.length_toList, hR.perm.length_eq, Array.length_toList]
  have hSs : ∀ x ∈ (arrOf st').toList, S x := fun x hx => hS x (hR.perm.mem_iff.mp hx)
  refine wpS_bind (wpS_countRunL C hR.kind hSs (by (first | exact ar399 hge hsz | lia)) (by (first | exact ar334 hge | lia)) fun n st2 hB2 hn1 hn2 hs2 => ?_)
  rw [show lo + (arr₀.size - lo) = arr₀.size by (first | exact ar335 hge | lia)] at hB2
  refine wpS_ite (fun hlt => ?_) fun _ => ?_
  · refine wpS_bind (wpS_lift (wpAny_rule ⟨rfl, ?_⟩))
    refine wpS_bind (wpS_binarySortL C hR.kind hSs (n := min (arr₀.size - lo) (minRun' arr₀.size arr₀.size 0)) (hi := arr₀.size) (by (first | exact ar82 hsz | lia)) (by (first | exact ar112 hge | lia)) (by (first | exact ar422 hn2 hlt | lia)) hB2 hs2 fun T hB hs => ?_)
    have h1 : 1 ≤ min (arr₀.size - lo) (minRun' arr₀.size arr₀.size 0) := by (first | exact ar433 hge hlt | lia)
    have h2 : lo + min (arr₀.size - lo) (minRun' arr₀.size arr₀.size 0) ≤ arr₀.size := by (first | exact ar112 hge | lia)
    exact wpS_srTail C hS h1 h2 (by rw [hB.size]; exact hsz) hs (hR.base T hB) fun st3 sg r R3 => go _ _ sg r (Nat.lt_add_of_pos_right h1) R3
  · exact wpS_srTail C hS hn1 (by (first | exact ar400 hge hn2 | lia)) (by rw [hB2.size]; exact hsz) hs2 (hR.base st2 hB2) fun st3 sg r R3 => go _ _ sg r (Nat.lt_add_of_pos_right hn1) R3
theorem wpS_sortRunsG (C : CmpOk prog w A s κ S key) {arr₀ : Array Keyed} (hS : ∀ x ∈ arr₀.toList, S x) {Q : Unit → SortSt → Prop} (h0 : arrOf st = arr₀) (hκ : kindOf st = κ) (hf : failedOf st = none) (hp : pendingOf st = #[])
    (h : ∀ st' : SortSt, (arrOf st').toList.Perm arr₀.toList → failedOf st' = none → (arrOf st').toList.Pairwise (LE key) → Q () st') : wpS (model prog w) A E s sortRuns' Q st := by
  rw [sortRunsP_eq]
  refine wpS_bind (wpS_get ?_)
  rw [h0]
  refine wpS_bind (wpS_mono (wpS_forRange
    (I := fun x c st' => ∃ lo segs rest, c = (none, lo) ∧ RunsAt key κ arr₀ lo st' segs rest ∧ (x ≤ lo ∨ arr₀.size ≤ lo))
    (Q := fun c st' => ∃ lo segs rest, c = (none, lo) ∧ RunsAt key κ arr₀ lo st' segs rest ∧ arr₀.size ≤ lo) ?step ?fin ⟨0, [], _, rfl, ⟨by simp; rfl, rfl, by rw [hp]; trivial, by simp, by rw [h0], hκ, hf⟩, .inl (Nat.le_refl _)⟩) ?post)
  case fin =>
    rintro c st' ⟨lo, segs, rest, rfl, R, hx⟩
    exact ⟨lo, segs, rest, rfl, R, by (first | exact ar325 hx | lia)⟩
  case step =>
    rintro x c st' _ hx ⟨lo, segs, rest, rfl, R, hlo⟩
    exact wpS_srStep C hS R (fun hge => ⟨lo, segs, rest, rfl, R, hge⟩) fun st2 lo' segs' rest' hl R' => ⟨lo', segs', rest', rfl, R', by lia⟩
  case post =>
    intro c st' hp2_
    refine Mine.byv fun P_ kP_ => ?_
    obtain ⟨lo, segs, rest, rfl, R, hlo⟩ := hp2_
    refine kP_ ?_
    clear kP_ P_
    dsimp only
    have hlo' : lo = arr₀.size := by
      have := congrArg List.length R.arr
      rw [R.perm.length_eq, List.length_append, R.lo, Array.length_toList] at this
      (first | exact ar386 hlo this | lia)
    have hc : (pendingOf st').size ≤ arr₀.size := by
      have := R.runs.count
      have := R.runs.len
      rw [Array.length_toList] at this
      rw [← R.lo] at hlo'
      (first | exact ar413 hlo' (by assumption) this | lia)
    refine wpS_bind (wpS_mono (wpS_forRange (I := fun x c st'' => c = (none, ()) ∧ ∃ segs, RunsAt key κ arr₀ lo st'' segs rest ∧ ((pendingOf st'').size + x ≤ arr₀.size ∨ (pendingOf st'').size ≤ 1))
      (Q := fun c st'' => c = (none, ()) ∧ ∃ segs, RunsAt key κ arr₀ lo st'' segs rest ∧ (pendingOf st'').size ≤ 1) ?gstep ?gfin ⟨rfl, segs, R, .inl (by (first | exact ar317 hc | lia))⟩) ?gpost)
    case gfin =>
      intro c st'' hp2_
      refine Mine.byv fun P_ kP_ => ?_
      obtain ⟨rfl, segs, R, hh⟩ := hp2_
      refine kP_ ?_
      clear kP_ P_
      exact ⟨rfl, segs, R, by lia⟩
    case gstep =>
      intro x c st'' _ hx hp5_
      refine Mine.byv fun P_ kP_ => ?_
      obtain ⟨rfl, segs, R, hh⟩ := hp5_
      refine kP_ ?_
      clear kP_ P_
      refine wpS_bind (wpS_get ?_)
      by_cases h1 : (pendingOf st'').size ≤ 1
      · rw [if_pos h1]
        exact wpS_pure ⟨rfl, segs, R, h1⟩
      rw [if_neg h1]
      have fin : ∀ i, i + 1 < (pendingOf st'').size → wpS (model prog w) A E s (mergeAt' i) (fun b st3 => b = true ∧ ∃ segs, RunsAt key κ arr₀ lo st3 segs rest ∧ ((pendingOf st3).size + (x + 1) ≤ arr₀.size ∨ (pendingOf st3).size ≤ 1)) st'' := fun i hi => by
        refine R.merge C hS hi fun st3 segs' R3 hl => ⟨rfl, segs', R3, ?_⟩
        have a1 := R.runs.len
        have a2 := R3.runs.len
        rw [Array.length_toList] at a1 a2
        lia
      refine wpS_bind (wpS_mono (fin _ (by (repeat' split) <;> lia)) ?_)
      intro b st3 hp2_
      obtain ⟨rfl, hh⟩ := hp2_
      rw [if_neg (by simp)]
      exact wpS_pure ⟨rfl, hh⟩
    case gpost =>
      intro c st'' hp2_
      refine Mine.byv fun P_ kP_ => ?_
      obtain ⟨rfl, segs, R, h1⟩ := hp2_
      refine kP_ ?_
      clear kP_ P_
      refine wpS_pure (h st'' R.perm R.failed ?_)
      have hr := R.arr
      have hrest : rest = [] := by
        have := congrArg List.length hr
        rw [R.perm.length_eq, List.length_append, R.lo, Array.length_toList] at this
        exact List.length_eq_zero_iff.mp (by lia)
      have hl := R.runs.len
      rw [Array.length_toList] at hl
      rw [hr, hrest, List.append_nil]
      match segs, hl, R.sorted with
      | [], _, _ => simp
      | [l], _, hs => simpa using hs l (by simp)
      | _ :: _ :: _, hl, _ => simp at hl; lia
end
noncomputable def readW : Str := Str.ofString "read"
noncomputable def writeW : Str := Str.ofString "write"
mutual
noncomputable def ky : Dat → List Int
  | .int i => [i]
  | .str x => [if x = readW then 0 else 1]
  | .tuple ds => kys ds
  | _ => []
noncomputable def kys : List Dat → List Int
  | [] => [0]
  | d :: ds => 1 :: (ky d ++ kys ds)
end
mutual
/-- comparable data -/
inductive Cmp : Dat → Dat → Prop
  | int (a b : Int) : Cmp (.int a) (.int b)
  | word (x y : Str) : (x = readW ∨ x = writeW) → (y = readW ∨ y = writeW) → Cmp (.str x) (.str y)
  | tuple {ds es : List Dat} : CmpAll ds es → Cmp (.tuple ds) (.tuple es)
inductive CmpAll : List Dat → List Dat → Prop
  | nilL (es : List Dat) : CmpAll [] es
  | nilR (ds : List Dat) : CmpAll ds []
  | cons {d e : Dat} {ds es : List Dat} : Cmp d e → CmpAll ds es → CmpAll (d :: ds) (e :: es)
end
theorem llt_append (x : List Int) : ∀ r t, llt (x ++ r) (x ++ t) = llt r t := by
  induction x with
  | nil => intro r t; rfl
  | cons a x ih => intro r t; rw [List.cons_append, List.cons_append, llt, ih]; simp
theorem llt_one (a : Int) (r t : List Int) : llt (a :: r) (a :: t) = llt r t := by simp [llt]
theorem llt_ne {a b : Int} (h : a ≠ b) (r t : List Int) : llt (a :: r) (b :: t) = decide (a < b) := by simp [llt, h]
noncomputable def NeD (d e : Dat) : Prop := d ≠ e → ∀ r t, llt (ky d ++ r) (ky e ++ t) = llt (ky d) (ky e)
noncomputable def NeL (ds es : List Dat) : Prop := ds ≠ es → ∀ r t, llt (kys ds ++ r) (kys es ++ t) = llt (kys ds) (kys es)
theorem ne_int (a b : Int) : NeD (.int a) (.int b) := fun h r t => by
  have : a ≠ b := fun q => h (by rw [q])
  show llt (a :: r) (b :: t) = llt [a] [b]
  rw [llt_ne this, llt_ne this]
theorem word_ne {x y : Str} (hx : x = readW ∨ x = writeW) (hy : y = readW ∨ y = writeW) (hxy : x ≠ y) : (if x = readW then (0 : Int) else 1) ≠ (if y = readW then (0 : Int) else 1) := by
  rcases hx with rfl | rfl <;> rcases hy with rfl | rfl
  · exact absurd rfl hxy
  · decide
  · decide
  · exact absurd rfl hxy
theorem ne_word (x y : Str) (hx : x = readW ∨ x = writeW) (hy : y = readW ∨ y = writeW) : NeD (.str x) (.str y) := fun h r t => by
  have := word_ne hx hy fun q => h (by rw [q])
  show llt (_ :: r) (_ :: t) = llt [_] [_]
  rw [llt_ne this, llt_ne this]
theorem ne_nilL (es : List Dat) : NeL [] es := fun h r t => by
  cases es with
  | nil => exact absurd rfl h
  | cons e es =>
    show llt (0 :: r) (1 :: _) = llt [0] (1 :: _)
    rw [llt_ne (by decide), llt_ne (by decide)]
theorem ne_nilR (es : List Dat) : NeL es [] := fun h r t => by
  cases es with
  | nil => exact absurd rfl h
  | cons e es =>
    show llt (1 :: _) (0 :: t) = llt (1 :: _) [0]
    rw [llt_ne (by decide), llt_ne (by decide)]
theorem ne_cons {d e : Dat} {ds es : List Dat} (i1 : NeD d e) (i2 : NeL ds es) : NeL (d :: ds) (e :: es) := fun h r t => by
  show llt (1 :: (ky d ++ kys ds) ++ r) (1 :: (ky e ++ kys es) ++ t) = llt (1 :: (ky d ++ kys ds)) (1 :: (ky e ++ kys es))
  rw [List.cons_append, List.cons_append, llt_one, llt_one, List.append_assoc, List.append_assoc]
  by_cases q : d = e
  · subst q
    rw [llt_append, llt_append]
    exact i2 (fun q => h (by rw [q])) r t
  · rw [i1 q, i1 q]
theorem ne_tuple {ds es : List Dat} (i : NeL ds es) : NeD (.tuple ds) (.tuple es) := fun hn r t => i (fun q => hn (by rw [q])) r t
theorem ky_ne {d e : Dat} (h : Cmp d e) : d ≠ e → ∀ r t, llt (ky d ++ r) (ky e ++ t) = llt (ky d) (ky e) :=
  Cmp.rec (motive_1 := fun d e _ => NeD d e) (motive_2 := fun ds es _ => NeL ds es) ne_int ne_word (fun _ => ne_tuple) ne_nilL ne_nilR (fun _ _ => ne_cons) h
theorem kys_ne {ds es : List Dat} (h : CmpAll ds es) : ds ≠ es → ∀ r t, llt (kys ds ++ r) (kys es ++ t) = llt (kys ds) (kys es) :=
  CmpAll.rec (motive_1 := fun d e _ => NeD d e) (motive_2 := fun ds es _ => NeL ds es) ne_int ne_word (fun _ => ne_tuple) ne_nilL ne_nilR (fun _ _ => ne_cons) h
theorem Cmp.symm {d e : Dat} (h : Cmp d e) : Cmp e d :=
  Cmp.rec (motive_1 := fun d e _ => Cmp e d) (motive_2 := fun ds es _ => CmpAll es ds) (fun a b => .int b a) (fun x y hx hy => .word y x hy hx) (fun _ => .tuple) .nilR .nilL (fun _ _ => .cons) h
noncomputable def InD (d e : Dat) : Prop := ky d = ky e → d = e
noncomputable def InL (ds es : List Dat) : Prop := kys ds = kys es → ds = es
theorem in_int (a b : Int) : InD (.int a) (.int b) := fun h => by rw [(List.cons.inj (show [a] = [b] from h)).1]
theorem in_word (x y : Str) (hx : x = readW ∨ x = writeW) (hy : y = readW ∨ y = writeW) : InD (.str x) (.str y) := fun h => by
  have h := (List.cons.inj (show [if x = readW then (0 : Int) else 1] = [if y = readW then (0 : Int) else 1] from h)).1
  exact Classical.byContradiction fun q => word_ne hx hy (fun e => q (by rw [e])) h
theorem in_nilL (es : List Dat) : InL [] es := fun h => by
  cases es with
  | nil => rfl
  | cons e es => exact absurd (List.cons.inj (show (0 : Int) :: [] = 1 :: _ from h)).1 (by decide)
theorem in_nilR (es : List Dat) : InL es [] := fun h => by
  cases es with
  | nil => rfl
  | cons e es => exact absurd (List.cons.inj (show (1 : Int) :: _ = 0 :: [] from h)).1 (by decide)
theorem in_cons {d e : Dat} {ds es : List Dat} (hd : Cmp d e) (i1 : InD d e) (i2 : InL ds es) : InL (d :: ds) (e :: es) := fun h => by
  have h := (List.cons.inj (show (1 : Int) :: (ky d ++ kys ds) = 1 :: (ky e ++ kys es) from h)).2
  have q : d = e := by
    refine Classical.byContradiction fun hn => ?_
    have h1 : llt (ky d) (ky e) = false := by rw [← ky_ne hd hn (kys ds) (kys es), h]; exact llt_irrefl _
    have h2 : llt (ky e) (ky d) = false := by rw [← ky_ne hd.symm (Ne.symm hn) (kys es) (kys ds), h]; exact llt_irrefl _
    exact hn (i1 (llt_total _ _ h1 h2))
  subst q
  rw [i2 (List.append_cancel_left h)]
theorem in_tuple {ds es : List Dat} (i : InL ds es) : InD (.tuple ds) (.tuple es) := fun h => by rw [i h]
theorem ky_inj {d e : Dat} (h : Cmp d e) : ky d = ky e → d = e :=
  Cmp.rec (motive_1 := fun d e _ => InD d e) (motive_2 := fun ds es _ => InL ds es) in_int in_word (fun _ => in_tuple) in_nilL in_nilR (fun h _ => in_cons h) h
/-- a datum of the heap, read -/
theorem DatH.reads {h : Heap} {v : Value} {d : Dat} (x : DatH h v d) {n : Nat} (hk : kqdOk n d = true) : ∃ as, Reads h v (kqdP d) as := by
  obtain ⟨l, a, b⟩ := x
  have N : News {} h.objs.size h l := fun p hp => ⟨(a p hp).1, Nat.ne_of_lt (Heap.lt_size (a p hp).1), rfl⟩
  exact kqd_in N n b hk
section
variable {prog : Program} {w : World} {A : Around} {E : Value → Shared → Prop} {s : Shared}
theorem eqBool_dat {v u : Value} {d e : Dat} {n : Nat} {Q : Bool → Shared → Prop} (hd : kqdOk n d = true) (he : kqdOk n e = true) (x : DatH s.heap v d) (y : DatH s.heap u e) (hu : A.units + n < cLine)
    (h : ∀ b : Bool, (b = true ↔ d = e) → Q b s) : wpAny (model prog w) A (eqBool v u) Q E s := by
  refine Mine.byv fun P_ kP_ => ?_
  obtain ⟨as, ra⟩ := x.reads hd
  obtain ⟨bs, rb⟩ := y.reads he
  refine kP_ ?_
  clear kP_ P_
  have la := kqd_lay n d hd
  have lb := kqd_lay n e he
  exact SeqAt.eqBoolOverData prog w A E s v u _ _ as bs Q ra rb la.1 lb.1 (by omega) (h _ (kqd_eqv n d e n hd he))
theorem eq_dat {v u : Value} {d e : Dat} {n : Nat} {Q : Value → Shared → Prop} (hd : kqdOk n d = true) (he : kqdOk n e = true) (x : DatH s.heap v d) (y : DatH s.heap u e) (hu : A.units + n < cLine)
    (h : ∀ b : Bool, (b = true ↔ d = e) → Q (.bool b) s) : wpAny (model prog w) A (compareOp .Eq v u) Q E s := by
  refine Mine.byv fun P_ kP_ => ?_
  obtain ⟨as, ra⟩ := x.reads hd
  obtain ⟨bs, rb⟩ := y.reads he
  refine kP_ ?_
  clear kP_ P_
  have la := kqd_lay n d hd
  have lb := kqd_lay n e he
  exact SeqAt.compareEq_reads ra rb la.1 lb.1 (by omega) (h _ (kqd_eqv n d e n hd he))
theorem zip_cons {α β : Type} {p : α} {q : β} {rest : List (α × β)} {xs : List α} {ys : List β} (h : (p, q) :: rest = List.zip xs ys) : ∃ xs' ys', xs = p :: xs' ∧ ys = q :: ys' ∧ rest = List.zip xs' ys' := by
  cases xs with
  | nil => cases h
  | cons p' xs =>
    cases ys with
    | nil => cases h
    | cons q' ys =>
      cases h
      exact ⟨xs, ys, rfl, rfl, rfl⟩
theorem zip_end {h : Heap} {xs ys : List Value} {ds es : List Dat} (hx : DatsH h xs ds) (hy : DatsH h ys es) (hz : xs = [] ∨ ys = []) : llt (kys ds) (kys es) = decide (xs.length < ys.length) := by
  have e1 := hx.length
  have e2 := hy.length
  cases ds with
  | nil =>
    cases es with
    | nil => rw [e1, e2]; rfl
    | cons e es =>
      rw [kys, kys, llt_ne (by decide), e1, e2]; simp
  | cons d ds =>
    cases es with
    | nil => rw [kys, kys, llt_ne (by decide), e1, e2]; simp
    | cons e es =>
      rcases hz with q | q
      · rw [q] at e1; cases e1
      · rw [q] at e2; cases e2
theorem CmpAll.head {d e : Dat} {ds es : List Dat} (h : CmpAll (d :: ds) (e :: es)) : Cmp d e := by
  cases h with | cons a b => exact a
theorem CmpAll.tail {d e : Dat} {ds es : List Dat} (h : CmpAll (d :: ds) (e :: es)) : CmpAll ds es := by
  cases h with | cons a b => exact b
inductive TupI (s : Shared) (f : Dat → Prop) (b0 l0 : Bool) (lt : List Dat → List Dat → Bool) (len : List Value → List Value → Bool) (rest : List (Value × Value)) (c : Prop) (s' : Shared) : Prop
  | mk (hr : c) (e : s' = s) (ds' es' : List Dat) (xs' ys' : List Value) (hz : rest = List.zip xs' ys') (hx : DatsH s.heap xs' ds') (hy : DatsH s.heap ys' es') (hd : ∀ d ∈ ds', f d) (he : ∀ d ∈ es', f d) (hc : CmpAll ds' es') (hl : lt ds' es' = b0) (hlen : len xs' ys' = l0)
theorem tuple_lt_dat (n : Nat) (rich : ∀ (d e : Dat) (A : Around) (v u : Value) (E : Value → Shared → Prop) (Q : Value → Shared → Prop), kqdOk n d = true → kqdOk n e = true → Cmp d e → DatH s.heap v d → DatH s.heap u e → A.units + n + 1 < cLine → Q (.bool (llt (ky d) (ky e))) s → wpAny (model prog w) A (richCompare .Lt v u) Q E s)
    {ds es : List Dat} {A : Around} {E : Value → Shared → Prop} {v u : Value} {Q : Value → Shared → Prop} (hd : ∀ d ∈ ds, kqdOk n d = true) (he : ∀ d ∈ es, kqdOk n d = true) (hc : CmpAll ds es) (x : DatH s.heap v (.tuple ds)) (y : DatH s.heap u (.tuple es)) (hu : A.units + (n + 1) + 1 < cLine)
    (h : Q (.bool (llt (kys ds) (kys es))) s) : wpAny (model prog w) A (call (.builtin "tuple.__lt__") [v, u]) (fun v s' => v ≠ .notImplemented ∧ Q v s') E s := by
  refine Mine.byv fun P_ kP_ => ?_
  obtain ⟨a, xs, na, rfl, ha, hxs⟩ := x.untuple
  obtain ⟨b, ys, nb, rfl, hb, hys⟩ := y.untuple
  refine kP_ ?_
  clear kP_ P_
  refine wpAny_call_entry F.slot_tuple_lt ⟨_, ha, rfl⟩ F.entry_tuple_lt ?_ (F.args_tuple_lt_2 _ _)
  show wpAny _ _ (isInstance (.ref b) (.type "tuple") >>= _) _ _ s
  refine wpAny_bind (wpAny_isInstance ⟨_, hb, rfl⟩ isSubtype_tuple_tuple ?_)
  simp only [Bool.not_true, Bool.false_eq_true, if_false]
  refine wpAny_bind (wpAny_tupleItemsOf ha rfl ?_)
  refine wpAny_bind (wpAny_tupleItemsOf hb rfl ?_)
  refine wpAny_bind ?_
  refine wpAny_forIn_list _
    (fun rest r s' => TupI s (fun d => kqdOk n d = true) (llt (kys ds) (kys es)) (decide (xs.length < ys.length)) (fun a b => llt (kys a) (kys b)) (fun a b => decide (a.length < b.length)) rest (r.1 = none) s')
    _ ?_ ?_ _ _ ⟨rfl, rfl, ds, es, xs, ys, rfl, hxs, hys, hd, he, hc, rfl, rfl⟩
  · intro hp0_ rest r s' hp4_
    refine Mine.byv fun P_ kP_ => ?_
    obtain ⟨p, q⟩ := hp0_
    obtain ⟨hr, rfl, ds', es', xs', ys', hz, hx', hy', hd', he', hc', hl, hlen⟩ := hp4_
    refine kP_ ?_
    clear kP_ P_
    refine Mine.byv fun P_ kP_ => ?_
    obtain ⟨xs'', ys'', rfl, rfl, rfl⟩ := zip_cons hz
    obtain ⟨d, ds'', rfl, dp, hx''⟩ := hx'.uncons
    obtain ⟨e, es'', rfl, dq, hy''⟩ := hy'.uncons
    refine kP_ ?_
    clear kP_ P_
    have hc1 := hc'.head
    have hc2 := hc'.tail
    rw [kys, kys, llt_one] at hl
    refine wpAny_bind (eqBool_dat (hd' d (.head _)) (he' e (.head _)) dp dq (by show A.units + 1 + n < _; (first | exact ar95 hu | omega)) fun bb hbb => ?_)
    cases bb with
    | true =>
      obtain rfl : d = e := hbb.mp rfl
      simp only [Bool.not_true, Bool.false_eq_true, if_false]
      refine wpAny_pure ⟨rfl, rfl, ds'', es'', xs'', ys'', rfl, hx'', hy'', fun d h => hd' d (.tail _ h), fun d h => he' d (.tail _ h), hc2, ?_, ?_⟩
      · rw [← hl, llt_append]
      · rw [← hlen]; simp
    | false =>
      simp only [Bool.not_false, if_true]
      have hne : d ≠ e := fun q => by have := hbb.mpr q; cases this
      refine wpAny_bind (wpAny_rule ?_)
      refine wpAny_bind (rich d e _ _ _ _ _ (hd' d (.head _)) (he' e (.head _)) hc1 dp dq (by show A.units + 1 + n + 1 < _; (first | exact ar346 hu | omega)) ?_)
      refine wpAny_bind (wpAny_pure (wpAny_pure ?_))
      rw [ky_ne hc1 hne] at hl
      exact wpAny_pure ⟨_, rfl, by simp, by rw [hl]; exact h⟩
  · intro r s' hp2_
    refine Mine.byv fun P_ kP_ => ?_
    obtain ⟨hr, rfl, ds', es', xs', ys', hz, hx', hy', hd', he', hc', hl, hlen⟩ := hp2_
    obtain ⟨r1, r2⟩ := r
    refine kP_ ?_
    clear kP_ P_
    dsimp only at hr ⊢
    subst hr
    have hsz : llt (kys ds') (kys es') = decide (xs'.length < ys'.length) := zip_end hx' hy' (List.zip_eq_nil_iff.mp hz.symm)
    refine wpAny_pure ⟨_, rfl, ?_, ?_⟩
    · simp [Builtin.Tuple.tupleCompareSizes]
    · rw [hl, hlen] at hsz
      have : Builtin.Tuple.tupleCompareSizes .Lt xs.toArray.size ys.toArray.size = .bool (decide (xs.length < ys.length)) := by simp [Builtin.Tuple.tupleCompareSizes]
      rw [this, ← hsz]; exact h
end
section
variable {prog : Program} {w : World} {s : Shared}
theorem word_lt {x y : Str} (hx : x = readW ∨ x = writeW) (hy : y = readW ∨ y = writeW) : decide (x.cps.toList < y.cps.toList) = llt (ky (.str x)) (ky (.str y)) := by
  rcases hx with rfl | rfl <;> rcases hy with rfl | rfl <;> decide
noncomputable def RichLt (prog : Program) (w : World) (s : Shared) (n : Nat) : Prop := ∀ (d e : Dat) (A : Around) (v u : Value) (E : Value → Shared → Prop) (Q : Value → Shared → Prop), kqdOk n d = true → kqdOk n e = true → Cmp d e → DatH s.heap v d → DatH s.heap u e → A.units + n + 1 < cLine →
    Q (.bool (llt (ky d) (ky e))) s → wpAny (model prog w) A (richCompare .Lt v u) Q E s
theorem rich_lt_step (n : Nat) (rich : ∀ m, n = m + 1 → RichLt prog w s m) : RichLt prog w s n := by
  intro d e A v u E Q hd he hc x y hu h
  cases hc with
  | int a b =>
    refine Mine.byv fun P_ kP_ => ?_
    obtain ⟨t, rfl⟩ := x.unint
    obtain ⟨t', rfl⟩ := y.unint
    refine kP_ ?_
    clear kP_ P_
    refine wpAny_richCompare_same (typeIs_int s a t) (typeIs_int s b t') slot_int_lt (call_int_lt ⟨by simp, ?_⟩)
    rw [ky, ky] at h
    simpa [llt] using h
  | word a b ha hb =>
    refine Mine.byv fun P_ kP_ => ?_
    obtain ⟨t, rfl⟩ := x.unstr
    obtain ⟨t', rfl⟩ := y.unstr
    refine kP_ ?_
    clear kP_ P_
    refine wpAny_richCompare_same (typeIs_str s a t) (typeIs_str s b t') slot_str_lt (call_str_lt ⟨by simp, ?_⟩)
    rw [word_lt ha hb]; exact h
  | @tuple ds es hc =>
    cases n with
    | zero => simp [kqdOk] at hd
    | succ n =>
      refine Mine.byv fun P_ kP_ => ?_
      obtain ⟨a, xs, na, rfl, ha, hxs⟩ := id x.untuple
      obtain ⟨b, ys, nb, rfl, hb, hys⟩ := id y.untuple
      refine kP_ ?_
      clear kP_ P_
      rw [ky, ky] at h
      exact wpAny_richCompare_same_room ⟨_, ha, rfl⟩ ⟨_, hb, rfl⟩ F.slot_tuple_lt (tuple_lt_dat n (rich n rfl) (by simpa [kqdOk] using hd) (by simpa [kqdOk] using he) hc x y hu h) (by (first | exact ar96 hu | omega))
theorem rich_lt_dat (n : Nat) : RichLt prog w s n := by
  induction n with
  | zero => exact rich_lt_step 0 fun m e => by cases e
  | succ n ih => exact rich_lt_step (n + 1) fun m e => by cases e; exact ih
theorem oneLt_dat {A : Around} {E : Value → Shared → Prop} {b : Bool} {n : Nat} {d e : Dat} {v u : Value} {Q : Bool → Shared → Prop} (hd : kqdOk n d = true) (he : kqdOk n e = true) (hc : Cmp d e) (x : DatH s.heap v d) (y : DatH s.heap u e) (hu : A.units + n + 1 < cLine)
    (h : Q (llt (ky d) (ky e)) s) : wpAny (model prog w) A (oneLt' b v u) Q E s := by
  cases b with
  | false =>
    rw [oneLt'_eq]
    simp only [Bool.false_eq_true, if_false]
    exact wpAny_bind (rich_lt_dat n d e A v u E _ hd he hc x y hu (wpAny_truthy_bool h))
  | true =>
    cases hc with
    | int a b =>
      refine Mine.byv fun P_ kP_ => ?_
      obtain ⟨t, rfl⟩ := x.unint
      obtain ⟨t', rfl⟩ := y.unint
      refine kP_ ?_
      clear kP_ P_
      refine oneLt_int ?_
      rw [ky, ky] at h
      simpa [llt] using h
    | word a b ha hb =>
      refine Mine.byv fun P_ kP_ => ?_
      obtain ⟨t, rfl⟩ := x.unstr
      obtain ⟨t', rfl⟩ := y.unstr
      refine kP_ ?_
      clear kP_ P_
      refine oneLt_str ?_
      rw [word_lt ha hb]; exact h
    | @tuple ds es hc =>
      cases n with
      | zero => simp [kqdOk] at hd
      | succ n =>
        refine Mine.byv fun P_ kP_ => ?_
        obtain ⟨a, xs, na, rfl, ha, hxs⟩ := id x.untuple
        obtain ⟨b, ys, nb, rfl, hb, hys⟩ := id y.untuple
        refine kP_ ?_
        clear kP_ P_
        rw [ky, ky] at h
        rw [oneLt'_eq]
        simp only [if_true]
        refine wpAny_bind (wpAny_cRoomFor_or (.inr (by (first | exact ar96 hu | omega))) ?_)
        refine wpAny_bind (wpAny_callSpecialIfBound?_slot ⟨_, ha, rfl⟩ F.slot_tuple_lt ?_)
        refine wpAny_mono (tuple_lt_dat (E := E) n (rich_lt_dat n) (by simpa [kqdOk] using hd) (by simpa [kqdOk] using he) hc x y hu
          (Q := fun v s' => v = .bool (llt (kys ds) (kys es)) ∧ s' = s) ⟨rfl, rfl⟩) (fun v' s' h' => ?_) (fun _ _ e => e)
        obtain ⟨_, rfl, rfl⟩ := h'
        dsimp only
        exact wpAny_truthy_bool h
theorem keyLt'_general (x y : Value) : keyLt' general' x y = oneLt' false x y := rfl
/-- the keyed elements stand for comparable data -/
structure SortAs (h : Heap) (n : Nat) (dat : Keyed → Dat) (S : Keyed → Prop) : Prop where
  at_ : ∀ x, S x → DatH h x.1 (dat x)
  ok : ∀ x, S x → kqdOk n (dat x) = true
  cmp : ∀ x y, S x → S y → Cmp (dat x) (dat y)
theorem lt_of_key {A : Around} {κ : SortKind} {S : Keyed → Prop} {key : Keyed → List Int} (hk : ∀ x y, S x → S y → ∀ (E : Value → Shared → Prop) (Q : Bool → Shared → Prop), Q (llt (key x) (key y)) s → wpAny (model prog w) { A with handled := A.handled } (keyLt' κ x.1 y.1) Q E s) : CmpOk prog w A s κ S key := by
  refine ⟨fun x y hx hy E Q st hst h => ?_⟩
  rw [lt'_eq]
  refine wpS_bind (wpS_get ?_)
  rw [hst]
  exact wpS_bind (wpS_lift (wpAny_attempt (hk x y hx hy _ _ ⟨rfl, wpS_pure h⟩)))
theorem cmp_plain {A : Around} {n : Nat} {dat : Keyed → Dat} {S : Keyed → Prop} {κ : SortKind} (hκ : κ = oneType' ∨ κ = general') (D : SortAs s.heap n dat S) (hu : A.units + n + 1 < cLine) : CmpOk prog w A s κ S (fun x => ky (dat x)) := by
  refine lt_of_key fun x y hx hy E Q h => ?_
  rcases hκ with rfl | rfl
  · rw [keyLt'_oneType]; exact oneLt_dat (D.ok x hx) (D.ok y hy) (D.cmp x y hx hy) (D.at_ x hx) (D.at_ y hy) hu h
  · rw [keyLt'_general]; exact oneLt_dat (D.ok x hx) (D.ok y hy) (D.cmp x y hx hy) (D.at_ x hx) (D.at_ y hy) hu h
theorem katLex_dat {A : Around} {n : Nat} {b fin : Bool} {Q : Bool → Shared → Prop} (hu : A.units + n + 1 < cLine) : ∀ (ds es : List Dat) (xs ys : List Value) (i : Nat), (∀ d ∈ ds, kqdOk n d = true) → (∀ d ∈ es, kqdOk n d = true) → CmpAll ds es → DatsH s.heap xs ds → DatsH s.heap ys es →
    fin = decide (xs.length < ys.length) → Q (llt (kys ds) (kys es)) s → KatLex prog w A b fin Q (xs.zip ys) i s := by
  intro ds
  induction ds with
  | nil =>
    intro es xs ys i hd he hc hx hy e' h
    cases xs with
    | cons x xs => exact absurd hx.length (Nat.succ_ne_zero _)
    | nil =>
      cases es with
      | nil =>
        cases ys with
        | cons y ys => exact absurd hy.length (Nat.succ_ne_zero _)
        | nil => subst e'; exact h
      | cons e es =>
        cases ys with
        | nil => exact absurd hy.length (Nat.succ_ne_zero _).symm
        | cons y ys =>
          subst e'
          rw [kys, kys, llt_ne (by decide)] at h
          exact kat_nil (by simpa using h)
  | cons d ds ih =>
    intro es xs ys i hd he hc hx hy e' h
    cases xs with
    | nil => exact absurd hx.length (Nat.succ_ne_zero _).symm
    | cons x xs =>
      cases es with
      | nil =>
        cases ys with
        | cons y ys => exact absurd hy.length (Nat.succ_ne_zero _)
        | nil =>
          subst e'
          rw [kys, kys, llt_ne (by decide)] at h
          exact kat_nil (by simpa using h)
      | cons e es =>
        cases ys with
        | nil => exact absurd hy.length (Nat.succ_ne_zero _).symm
        | cons y ys =>
          obtain ⟨d', ds', q, dx, hx'⟩ := hx.uncons
          cases q
          obtain ⟨d', ds', q, dy, hy'⟩ := hy.uncons
          cases q
          have hc1 := hc.head
          have hc2 := hc.tail
          rw [kys, kys, llt_one] at h
          rw [List.zip_cons_cons]
          refine kat_cons (eqBool_dat (hd d (.head _)) (he e (.head _)) dx dy (by (first | exact ar349 hu | omega)) fun bb hbb => ?_)
          cases bb with
          | true =>
            obtain rfl : d = e := hbb.mp rfl
            rw [llt_append] at h
            exact kat_yes (ih es xs ys _ (fun d h => hd d (.tail _ h)) (fun d h => he d (.tail _ h)) hc2 hx' hy' (by rw [e']; simp) h)
          | false =>
            have hne : d ≠ e := fun q => by have := hbb.mpr q; cases this
            rw [ky_ne hc1 hne] at h
            exact kat_no (oneLt_dat (hd d (.head _)) (he e (.head _)) hc1 dx dy hu h)
theorem cmp_tuples {A : Around} {n : Nat} {dat : Keyed → Dat} {S : Keyed → Prop} {b : Bool} (D : SortAs s.heap n dat S) (ht : ∀ x, S x → ∃ ds, dat x = .tuple ds) (hu : A.units + n + 1 < cLine) : CmpOk prog w A s (tuples' b) S (fun x => ky (dat x)) := by
  refine lt_of_key fun x y hx hy E Q h => ?_
  refine Mine.byv fun P_ kP_ => ?_
  obtain ⟨ds, e1⟩ := ht x hx
  obtain ⟨es, e2⟩ := ht y hy
  refine kP_ ?_
  clear kP_ P_
  have h1 := D.at_ x hx
  have h2 := D.at_ y hy
  have k1 := D.ok x hx
  have k2 := D.ok y hy
  have hc := D.cmp x y hx hy
  rw [e1] at h1 k1 hc
  rw [e2] at h2 k2 hc
  refine Mine.byv fun P_ kP_ => ?_
  obtain ⟨a, xs, na, ea, ha, hxs⟩ := h1.untuple
  obtain ⟨a', ys, nb, eb, hb, hys⟩ := h2.untuple
  refine kP_ ?_
  clear kP_ P_
  have hc : CmpAll ds es := by cases hc with | tuple h => exact h
  cases n with
  | zero => simp [kqdOk] at k1
  | succ n =>
    rw [ea, eb]
    refine kat_lt ha rfl hb rfl ?_
    rw [e1, e2, ky, ky] at h
    exact katLex_dat (n := n) (by (first | exact ar347 hu | omega)) ds es xs ys 0 (by simpa [kqdOk] using k1) (by simpa [kqdOk] using k2) hc hxs hys (by simp) h
theorem mapM_any {α β : Type} {M : Model} {A : Around} {E : Value → Shared → Prop} {f : α → Sem β} : ∀ (l : List α) {Q : List β → Shared → Prop}, (∀ v ∈ l, ∀ (Q' : β → Shared → Prop), (∀ r, Q' r s) → wpAny M A (f v) Q' E s) → (∀ rs, Q rs s) → wpAny M A (l.mapM f) Q E s
  | [], _, _, h => by rw [List.mapM_nil]; exact wpAny_pure (h _)
  | x :: l, Q, hf, h => by
    rw [List.mapM_cons]
    exact wpAny_bind (hf x (.head _) _ fun r => wpAny_bind (mapM_any l (Q := fun bs s' => wpAny M A (pure (r :: bs)) Q E s') (fun v hv => hf v (.tail _ hv)) fun rs => wpAny_pure (h _)))
end
theorem DatH.uniq {h : Heap} {v : Value} {d e : Dat} {n : Nat} (x : DatH h v d) (y : DatH h v e) (hd : kqdOk n d = true) (he : kqdOk n e = true) : d = e := by
  refine Mine.byv fun P_ kP_ => ?_
  obtain ⟨as, ra⟩ := x.reads hd
  obtain ⟨bs, rb⟩ := y.reads he
  refine kP_ ?_
  clear kP_ P_
  have := SeqAt.Reads.unique _ _ _ _ _ (kqd_lay n d hd).1 ra rb
  refine (kqd_eqv n d e n hd he).mp ?_
  rw [← this]
  exact SeqAt.eqv_refl _ (kqd_lay n d hd).1
theorem DatsH.memL {h : Heap} {vs : List Value} {ds : List Dat} (x : DatsH h vs ds) {v : Value} (hv : v ∈ vs) : ∃ d ∈ ds, DatH h v d := by
  induction vs generalizing ds with
  | nil => cases hv
  | cons u vs ih =>
    refine Mine.byv fun P_ kP_ => ?_
    obtain ⟨d, ds', rfl, hd, hs⟩ := x.uncons
    refine kP_ ?_
    clear kP_ P_
    rcases List.mem_cons.mp hv with rfl | hv
    · exact ⟨d, .head _, hd⟩
    · obtain ⟨e, he, hh⟩ := ih hs hv
      exact ⟨e, .tail _ he, hh⟩
open Classical in
noncomputable def datAt (h : Heap) (ds : List Dat) (v : Value) : Dat := if q : ∃ d, d ∈ ds ∧ DatH h v d then choose q else .none
theorem datAt_spec {h : Heap} {ds : List Dat} {v : Value} (q : ∃ d, d ∈ ds ∧ DatH h v d) : datAt h ds v ∈ ds ∧ DatH h v (datAt h ds v) := by
  unfold datAt
  rw [dif_pos q]
  exact Classical.choose_spec q
theorem datAt_map {h : Heap} {n : Nat} : ∀ {vs : List Value} {ds all : List Dat}, DatsH h vs ds → (∀ d ∈ ds, d ∈ all) → (∀ d ∈ all, kqdOk n d = true) → vs.map (datAt h all) = ds
  | [], ds, all, x, _, _ => by
    have := x.length
    exact (List.length_eq_zero_iff.mp this.symm).symm
  | v :: vs, ds, all, x, hs, hk => by
    refine Mine.byv fun P_ kP_ => ?_
    obtain ⟨d, ds', rfl, hd, hs'⟩ := x.uncons
    refine kP_ ?_
    clear kP_ P_
    have sp := datAt_spec (h := h) (ds := all) (v := v) ⟨d, hs d (.head _), hd⟩
    rw [List.map_cons, datAt_map hs' (fun e he => hs e (.tail _ he)) hk, sp.2.uniq hd (hk _ sp.1) (hk d (hs d (.head _)))]
theorem DatsH.of_map {h : Heap} (f : Value → Dat) : ∀ (vs : List Value), (∀ v ∈ vs, DatH h v (f v)) → DatsH h vs (vs.map f)
  | [], _ => DatsH.nil h
  | v :: vs, hv => DatsH.cons (hv v (.head _)) (DatsH.of_map f vs fun u hu => hv u (.tail _ hu))
theorem cmp_basic {d : Dat} (h : Cmp d d) : (∃ i, d = .int i) ∨ (∃ i, d = .str i) ∨ ∃ ds, d = .tuple ds := by
  cases h with
  | int a => exact .inl ⟨_, rfl⟩
  | word x => exact .inr (.inl ⟨_, rfl⟩)
  | tuple h => exact .inr (.inr ⟨_, rfl⟩)
theorem cmpAll_basic : ∀ {ds : List Dat}, CmpAll ds ds → ∀ d ∈ ds, Cmp d d
  | [], _, d, hd => by cases hd
  | e :: ds, h, d, hd => by
    cases h with
    | cons a b =>
      rcases List.mem_cons.mp hd with rfl | hd
      · exact a
      · exact cmpAll_basic b d hd
section
variable {prog : Program} {w : World} {s : Shared} {A : Around} {E : Value → Shared → Prop}
theorem firsts_dat : ∀ (vs : List Value) (ds : List Dat) {Q : List (Option Value) → Shared → Prop}, DatsH s.heap vs ds → (∀ d ∈ ds, ∃ es, d = .tuple es ∧ CmpAll es es) →
    (∀ fs : List (Option Value), (∀ f ∈ fs, ∀ v, f = some v → ∃ d, DatH s.heap v d ∧ Cmp d d) → Q fs s) → wpAny (model prog w) A (vs.mapM firstOfTuple') Q E s
  | [], _, _, _, _, h => by rw [List.mapM_nil]; exact wpAny_pure (h _ (by simp))
  | v :: vs, ds, Q, x, ht, h => by
    refine Mine.byv fun P_ kP_ => ?_
    obtain ⟨d, ds', rfl, hd, hs⟩ := x.uncons
    obtain ⟨es, rfl, hc⟩ := ht _ (.head _)
    obtain ⟨a, xs, n, rfl, ha, hxs⟩ := hd.untuple
    refine kP_ ?_
    clear kP_ P_
    rw [List.mapM_cons, kas_first_eq]
    refine wpAny_bind (wpAny_bind (wpAny_typeOf ⟨_, ha, rfl⟩ ?_))
    rw [if_neg (by decide)]
    refine wpAny_bind (listItems_at ha rfl (wpAny_pure ?_))
    refine wpAny_bind (firsts_dat vs ds' (Q := fun bs s' => wpAny (model prog w) A (pure (_ :: bs)) Q E s') hs (fun d hd => ht d (.tail _ hd)) fun fs hf => wpAny_pure (h _ fun f hf' v hv => ?_))
    rcases List.mem_cons.mp hf' with rfl | hf'
    · cases xs with
      | nil => simp at hv
      | cons u us =>
        have : u = v := by simpa using hv
        subst this
        refine Mine.byv fun P_ kP_ => ?_
        obtain ⟨e, es', rfl, he, _⟩ := hxs.uncons
        refine kP_ ?_
        clear kP_ P_
        exact ⟨e, he, cmpAll_basic hc e (.head _)⟩
    · exact hf f hf' v hv
theorem oneTypeOnly_dat (vs : List Value) {Q : Option Value → Shared → Prop} (hv : ∀ v ∈ vs, ∃ d, DatH s.heap v d ∧ Cmp d d) (h : ∀ t, Q t s) : wpAny (model prog w) A (oneTypeOnly' vs.toArray) Q E s := by
  rw [oneTypeOnly'_eq, List.mapM_toArray, map_eq_pure_bind]
  refine wpAny_bind (wpAny_bind (mapM_any vs (fun v hv' Q' hq => ?_) fun ts => wpAny_pure ?_))
  · obtain ⟨d, hd, hc⟩ := hv v hv'
    rcases cmp_basic hc with ⟨i, rfl⟩ | ⟨i, rfl⟩ | ⟨ds, rfl⟩
    · obtain ⟨t, rfl⟩ := hd.unint; exact wpAny_pure (hq _)
    · obtain ⟨t, rfl⟩ := hd.unstr; exact wpAny_pure (hq _)
    · obtain ⟨a, xs, n, rfl, ha, _⟩ := hd.untuple
      exact wpAny_typeOf ⟨_, ha, rfl⟩ (hq _)
  · cases e : ts.toArray[0]? with
    | none => exact wpAny_pure (h _)
    | some t => exact wpAny_pure (h _)
theorem kind_dat {vs : List Value} {ds : List Dat} {Q : SortKind → Shared → Prop} (x : DatsH s.heap vs ds) (ht : ∀ d ∈ ds, ∃ es, d = .tuple es ∧ CmpAll es es) (h1 : Q oneType' s) (h2 : Q general' s) (h3 : ∀ b, Q (tuples' b) s) : wpAny (model prog w) A (keyKind' vs.toArray) Q E s := by
  rw [kat_kind_eq, List.mapM_toArray, map_eq_pure_bind]
  refine wpAny_bind (wpAny_bind (firsts_dat vs ds x ht fun fs hf => wpAny_pure ?_))
  by_cases hall : (fs.toArray.all fun x => x.isSome) = true
  · rw [if_pos hall]
    refine wpAny_bind (wpAny_rule ?_)
    have : fs.toArray.filterMap id = (fs.filterMap id).toArray := by simp
    rw [this]
    refine wpAny_bind (oneTypeOnly_dat _ (fun v hv => ?_) fun t => wpAny_pure (h3 _))
    obtain ⟨f, hf', e⟩ := List.mem_filterMap.mp hv
    exact hf f hf' v e
  · rw [if_neg hall]
    by_cases hg : (fs.toArray[0]?.bind id).isSome = true
    · rw [if_pos hg]; exact wpAny_pure h2
    · rw [if_neg hg]
      refine wpAny_bind (oneTypeOnly_dat _ (fun v hv => ?_) fun t => wpAny_pure ?_)
      · obtain ⟨d, hd, hh⟩ := x.memL hv
        obtain ⟨es, rfl, hc⟩ := ht d hd
        exact ⟨_, hh, .tuple hc⟩
      · cases t.isSome with
        | true => exact h1
        | false => exact h2
/-- what a sort is to know of its data: all ints, or all comparable tuples -/
noncomputable def Sortable (n : Nat) (ds : List Dat) : Prop := (∀ d ∈ ds, ∃ i, d = .int i) ∨ ((∀ d ∈ ds, kqdOk n d = true) ∧ (∀ d ∈ ds, ∃ es, d = .tuple es) ∧ ∀ d ∈ ds, ∀ e ∈ ds, Cmp d e)
theorem Sortable.ok {n : Nat} {ds : List Dat} (h : Sortable n ds) : ∀ d ∈ ds, kqdOk n d = true := by
  rcases h with h | h
  · intro d hd
    obtain ⟨i, rfl⟩ := h d hd
    cases n <;> rfl
  · exact h.1
theorem Sortable.cmp {n : Nat} {ds : List Dat} (h : Sortable n ds) : ∀ d ∈ ds, ∀ e ∈ ds, Cmp d e := by
  rcases h with h | h
  · intro d hd e he
    refine Mine.byv fun P_ kP_ => ?_
    obtain ⟨i, rfl⟩ := h d hd
    obtain ⟨j, rfl⟩ := h e he
    refine kP_ ?_
    clear kP_ P_
    exact .int i j
  · exact h.2.2
theorem kind_sortable {n : Nat} {vs : List Value} {ds : List Dat} {Q : SortKind → Shared → Prop} (x : DatsH s.heap vs ds) (hs : Sortable n ds) (h2 : 2 ≤ vs.length) (hu : A.units + n + 1 < cLine)
    (h : ∀ κ, (∀ (dat : Keyed → Dat) (S : Keyed → Prop), (∀ x, S x → dat x ∈ ds ∧ DatH s.heap x.1 (dat x)) → CmpOk prog w A s κ S (fun x => ky (dat x))) → Q κ s) : wpAny (model prog w) A (keyKind' vs.toArray) Q E s := by
  have sa : ∀ (dat : Keyed → Dat) (S : Keyed → Prop), (∀ x, S x → dat x ∈ ds ∧ DatH s.heap x.1 (dat x)) → SortAs s.heap n dat S := fun dat S hS => ⟨fun x hx => (hS x hx).2, fun x hx => hs.ok _ (hS x hx).1, fun x y hx hy => hs.cmp _ (hS x hx).1 _ (hS y hy).1⟩
  rcases hs with hi | ⟨_, ht, hc⟩
  · have hI : ∀ v ∈ vs, ∃ n t, v = .int n t := fun v hv => by
      refine Mine.byv fun P_ kP_ => ?_
      obtain ⟨d, hd, hh⟩ := x.memL hv
      obtain ⟨i, rfl⟩ := hi d hd
      obtain ⟨t, rfl⟩ := hh.unint
      refine kP_ ?_
      clear kP_ P_
      exact ⟨_, _, rfl⟩
    obtain ⟨v₁, v₂, rest, rfl⟩ : ∃ v₁ v₂ rest, vs = v₁ :: v₂ :: rest := by
      match vs, h2 with
      | [], h2 => simp at h2
      | [_], h2 => simp at h2
      | v₁ :: v₂ :: rest, _ => exact ⟨v₁, v₂, rest, rfl⟩
    rw [keyKind_ints (intsAre_map _ hI)]
    exact wpAny_pure (h _ fun dat S hS => cmp_plain (.inl rfl) (sa dat S hS) hu)
  · refine kind_dat x (fun d hd => ?_) (h _ fun dat S hS => cmp_plain (.inl rfl) (sa dat S hS) hu) (h _ fun dat S hS => cmp_plain (.inr rfl) (sa dat S hS) hu) fun b => h _ fun dat S hS => cmp_tuples (sa dat S hS) (fun x hx => ht _ (hS x hx).1) hu
    obtain ⟨es, rfl⟩ := ht d hd
    have := hc _ hd _ hd
    cases this with
    | tuple h => exact ⟨es, rfl, h⟩
theorem list_sort_dat {a : Addr} {vs : List Value} {ds : List Dat} {k n : Nat} {P : Fin → Shared → Prop} (ho : s.heap.get? a = some (seqObj "list" vs.toArray k)) (x : DatsH s.heap vs ds) (hs : Sortable n ds) (hu : A.units + n + 1 < cLine) (hsz0 : vs.length ≤ sizeLine)
    (h : ∀ (out : List Value) (ds' : List Dat) h' k', h' = sortedHeap s.heap a vs out.toArray → Keeps [a] s.heap h' → h'.get? a = some (seqObj "list" out.toArray k') → DatsH h' out ds' → ds'.Perm ds → (ds'.map ky).Pairwise lle → P (.done (.ret .none)) { s with heap := h' }) :
    wpAny (model prog w) A (Builtin.«list.sort» ⟨[.ref a], []⟩) P E s := by
  rw [list_sort_plain]
  have ha : a < s.heap.objs.size := Heap.lt_size ho
  refine wpAny_bind (listItems_at ho rfl ?_)
  refine wpAny_bind (listUpdate_at ho rfl ?_ (hsz := by simpa using hsz0))
  obtain ⟨e1, ho1⟩ : ∃ e1, (s.heap.update a (Obj.mapSeq fun _ => #[])).get? a = some (seqObj "list" #[] e1) := ⟨_, get?_update_seq ho (fun _ => #[])⟩
  refine wpAny_bind (seqEpoch_at ho1 rfl ?_)
  refine wpAny_bind (wpAny_newTuple ?_)
  refine wpAny_bind (wpAny_newList ?_)
  refine wpAny_holding ?_
  have ho6 : (((s.heap.update a (Obj.mapSeq fun _ => #[])).push (seqObj "tuple" vs.toArray 0)).push (seqObj "list" #[] 0)).get? a = some (seqObj "list" #[] e1) := by
    rw [Heap.get?_push_ne _ _ _ (by rw [size_push', Heap.size_update]; exact Nat.ne_of_lt (Nat.lt_succ_of_lt ha)), Heap.get?_push_ne _ _ _ (by rw [Heap.size_update]; exact Nat.ne_of_lt ha)]
    exact ho1
  have hk6 : Keeps [a] s.heap (((s.heap.update a (Obj.mapSeq fun _ => #[])).push (seqObj "tuple" vs.toArray 0)).push (seqObj "list" #[] 0)) := fun b o hb e => by
    have hne : b ≠ a := by simpa using hb
    refine Heap.get?_push_of_some _ (Heap.get?_push_of_some _ ?_)
    rw [Heap.get?_update_other _ _ (Ne.symm hne)]; exact e
  show wpAny (model prog w) A _ P E { s with heap := ((s.heap.update a (Obj.mapSeq fun _ => #[])).push (seqObj "tuple" vs.toArray 0)).push (seqObj "list" #[] 0) }
  dsimp only
  have hsz : vs.toArray.size = vs.length := by simp
  have nt : NoTup s.heap [a] := fun b hb o e => by
    have : b = a := by simpa using hb
    subst this
    rw [ho] at e; cases e
    simp [IsTupO]
  have x6 := x.keeps hk6 nt
  have fin : ∀ st' : SortSt, (arrOf st').toList.Perm (pairsOf vs).toList → (vs.length < 2 ∨ (arrOf st').toList.Pairwise (LE fun x => ky (datAt (((s.heap.update a (Obj.mapSeq fun _ => #[])).push (seqObj "tuple" vs.toArray 0)).push (seqObj "list" #[] 0)) ds x.1))) →
      P (.done (.ret .none)) { s with heap := sortedHeap s.heap a vs ((arrOf st').map (·.2)) } := by
    intro st' hp hs'
    have hmem : ∀ p, p ∈ (arrOf st').toList → p.1 = p.2 ∧ p.1 ∈ vs := fun p hp' => mem_zip_self (by rw [← pairsOf_toList]; exact hp.mem_iff.mp hp')
    have e1 : (arrOf st').map (·.2) = (((arrOf st').toList.map (·.1))).toArray := by
      apply Array.ext'
      rw [Array.toList_map, List.toList_toArray]
      exact List.map_congr_left fun p hp' => (hmem p hp').1.symm
    have hko : Keeps [a] (((s.heap.update a (Obj.mapSeq fun _ => #[])).push (seqObj "tuple" vs.toArray 0)).push (seqObj "list" #[] 0)) (sortedHeap s.heap a vs ((arrOf st').toList.map (·.1)).toArray) := fun b o hb e => by
      have hne : b ≠ a := by simpa using hb
      unfold sortedHeap
      rw [Heap.get?_update_other _ _ (Ne.symm hne)]; exact e
    have nt6 : NoTup (((s.heap.update a (Obj.mapSeq fun _ => #[])).push (seqObj "tuple" vs.toArray 0)).push (seqObj "list" #[] 0)) [a] := fun b hb o e => by
      have : b = a := by simpa using hb
      subst this
      rw [ho6] at e; cases e
      simp [IsTupO]
    have x7 := DatsH.of_map (h := (((s.heap.update a (Obj.mapSeq fun _ => #[])).push (seqObj "tuple" vs.toArray 0)).push (seqObj "list" #[] 0)))
      (datAt (((s.heap.update a (Obj.mapSeq fun _ => #[])).push (seqObj "tuple" vs.toArray 0)).push (seqObj "list" #[] 0)) ds) ((arrOf st').toList.map (·.1)) (fun v hv => by
        obtain ⟨p, hp', rfl⟩ := List.mem_map.mp hv
        exact (datAt_spec (x6.memL (hmem p hp').2)).2)
    rw [e1]
    refine h _ _ _ _ rfl (hk6.trans hko) (get?_update_seq ho6 _) (x7.keeps hko nt6) ?_ ?_
    · have e2 := datAt_map x6 (fun d hd => hd) hs.ok
      have e3 : ((pairsOf vs).toList.map (·.1)).map (datAt (((s.heap.update a (Obj.mapSeq fun _ => #[])).push (seqObj "tuple" vs.toArray 0)).push (seqObj "list" #[] 0)) ds) = ds := by
        rw [pairsOf_toList, List.map_fst_zip (Nat.le_refl _), e2]
      have := (hp.map (·.1)).map (datAt (((s.heap.update a (Obj.mapSeq fun _ => #[])).push (seqObj "tuple" vs.toArray 0)).push (seqObj "list" #[] 0)) ds)
      rwa [e3] at this
    · rcases hs' with hs' | hs'
      · have hl : (arrOf st').toList.length < 2 := by rw [hp.length_eq, Array.length_toList, pairsOf_size]; exact hs'
        match (arrOf st').toList, hl with
        | [], _ => simp
        | [_], _ => simp
        | _ :: _ :: _, hl => simp at hl; omega
      · rw [List.map_map, List.map_map, List.pairwise_map]
        exact hs'
  by_cases h2 : vs.toArray.size < 2
  · rw [if_pos h2, if_pos h2]
    refine wpAny_bind (wpAny_pure ?_)
    rw [StateT.run_pure]
    refine wpAny_bind (wpAny_pure ?_)
    dsimp only
    refine wpAny_bind (seqEpoch_at ho6 rfl ?_)
    refine wpAny_bind (listUpdate_at ho6 rfl ?_ (hsz2 := by rw [Array.size_map]; show (pairsOf vs).size ≤ _; rw [pairsOf_size]; (first | exact ar14 hsz0 | omega)))
    simp only [bne_self_eq_false, Bool.false_eq_true, if_false]
    exact wpAny_pure (fin (SortSt.mk' general' (vs.toArray.zip vs.toArray) #[] 7 none) (List.Perm.refl _) (.inl (by omega)))
  · rw [if_neg h2, if_neg h2]
    refine wpAny_bind (kind_sortable (s := { s with heap := ((s.heap.update a (Obj.mapSeq fun _ => #[])).push (seqObj "tuple" vs.toArray 0)).push (seqObj "list" #[] 0) }) (n := n) x6 hs (by (first | exact ar302 hsz h2 | omega)) hu fun κ hκ => ?_)
    refine wpAny_bind (wpAny_mono (wpS_sortRunsG (s := { s with heap := ((s.heap.update a (Obj.mapSeq fun _ => #[])).push (seqObj "tuple" vs.toArray 0)).push (seqObj "list" #[] 0) })
      (hκ (fun x => datAt (((s.heap.update a (Obj.mapSeq fun _ => #[])).push (seqObj "tuple" vs.toArray 0)).push (seqObj "list" #[] 0)) ds x.1) (fun x => x.1 ∈ vs) fun x hx => datAt_spec (x6.memL hx)) (arr₀ := pairsOf vs)
      (st := SortSt.mk' κ (vs.toArray.zip vs.toArray) #[] 7 none) (Q := fun _ st' => (arrOf st').toList.Perm (pairsOf vs).toList ∧ failedOf st' = none ∧ (arrOf st').toList.Pairwise (LE fun x => ky (datAt (((s.heap.update a (Obj.mapSeq fun _ => #[])).push (seqObj "tuple" vs.toArray 0)).push (seqObj "list" #[] 0)) ds x.1)))
      (fun x hx => by rw [pairsOf_toList] at hx; exact (mem_zip_self hx).2) rfl rfl rfl rfl fun st' a1 a2 a3 => ⟨a1, a2, a3⟩) ?_ fun _ _ e => e)
    intro hp0_ s' hp2_
    refine Mine.byv fun P_ kP_ => ?_
    obtain ⟨⟨⟩, st'⟩ := hp0_
    obtain ⟨rfl, hp, hf, hs'⟩ := hp2_
    refine kP_ ?_
    clear kP_ P_
    dsimp only
    refine wpAny_bind (seqEpoch_at ho6 rfl ?_)
    refine wpAny_bind (listUpdate_at ho6 rfl ?_ (hsz2 := by rw [Array.size_map, ← Array.length_toList, hp.length_eq, Array.length_toList, pairsOf_size]; (first | exact ar14 hsz0 | omega)))
    rw [hf]
    simp only [bne_self_eq_false, Bool.false_eq_true, if_false]
    exact wpAny_pure (fin st' hp (.inr hs'))
theorem sorted_any {c : Value} {ds : List Dat} {n : Nat} {Q : Value → Shared → Prop} (hu : A.units + n + 4 < cLine) (hs : Sortable n ds) (hsz : ds.length ≤ sizeLine)
    (hc : wpAny (model prog w) A.in1 (collect c) (fun us s₁ => ∃ h₁ tk, s₁ = { s with heap := h₁, toks := tk } ∧ Sub s.heap h₁ ∧ DatsH h₁ us ds) E s)
    (h : ∀ l out ds' k h' tk, Sub s.heap h' → s.heap.get? l = none → h'.get? l = some (seqObj "list" out.toArray k) → DatsH h' out ds' → ds'.Perm ds → (ds'.map ky).Pairwise lle → Q (.ref l) { s with heap := h', toks := tk }) :
    wpAny (model prog w) A (call (.builtin "sorted") [c]) Q E s := by
  refine Calls.call_function_entry kind_sorted plain_sorted entry_sorted (args_sorted1 _) ?_
  unfold Builtin.«sorted»
  refine wpAny_bind (m := checkCount "sorted" 1 1 _) (wpAny_pure ?_)
  refine wpAny_bind (wpAny_mono hc (fun us s₁ hh => ?_) fun _ _ e => e)
  refine Mine.byv fun P_ kP_ => ?_
  obtain ⟨h₁, tk, rfl, hsub, hd⟩ := hh
  refine kP_ ?_
  clear kP_ P_
  have hul : us.length ≤ sizeLine := by rw [hd.length]; exact hsz
  refine wpAny_bind (wpAny_newList ?_)
  have hoL : (h₁.push (seqObj "list" us.toArray 0)).get? h₁.objs.size = some (seqObj "list" us.toArray 0) := Heap.get?_push_size _ rfl
  have hsub2 : Sub h₁ (h₁.push (seqObj "list" us.toArray 0)) := fun b o e => Heap.get?_push_of_some _ e
  show wpAny _ _ _ _ _ { s with heap := h₁.push (seqObj "list" us.toArray 0), toks := tk }
  have hnone : s.heap.get? h₁.objs.size = none := by
    cases e : s.heap.get? h₁.objs.size with
    | none => rfl
    | some o => exact absurd (Heap.lt_size (hsub _ _ e)) (Nat.lt_irrefl _)
  refine wpAny_bind (wpAny_holding (wpAny_call_entry slot_list_sort ⟨_, hoL, rfl⟩ entry_list_sort (list_sort_dat (s := { s with heap := h₁.push (seqObj "list" us.toArray 0), toks := tk }) (n := n) hoL (hd.up hsub2) hs (by show A.units + 1 + 1 + n + 1 < _; (first | exact ar100 hu | omega)) hul fun out ds' h' k' _ hk hl hds hp hpw => ⟨_, rfl, ?_⟩) (args_list_sort _)))
  refine wpAny_pure ⟨_, rfl, h _ out ds' k' h' tk (fun b o e => ?_) hnone hl hds hp hpw⟩
  refine hk _ _ ?_ (hsub2 _ _ (hsub _ _ e))
  intro q
  have : b = h₁.objs.size := by simpa using q
  subst this
  rw [hnone] at e; cases e
end
theorem perm_map {α β : Type} {f : α → β} {g : β → α} (hg : ∀ x, g (f x) = x) {l : List α} {l' : List β} (h : l'.Perm (l.map f)) : ∃ m : List α, l' = m.map f ∧ m.Perm l := by
  refine ⟨l'.map g, ?_, ?_⟩
  · rw [List.map_map]
    conv => lhs; rw [← List.map_id l']
    refine List.map_congr_left fun y hy => ?_
    obtain ⟨x, _, rfl⟩ := List.mem_map.mp (h.mem_iff.mp hy)
    simp [hg]
  · have := h.map g
    have e : l.map (g ∘ f) = l := by
      conv => rhs; rw [← List.map_id l]
      exact List.map_congr_left fun x _ => hg x
    rwa [List.map_map, e] at this
noncomputable def unInt : Dat → Int
  | .int i => i
  | _ => 0
noncomputable def unPair : Dat → Int × Int
  | .tuple [.int a, .int b] => (a, b)
  | _ => (0, 0)
noncomputable def pathD (ks : List Int) : Dat := .tuple (ks.map .int)
noncomputable def unPath : Dat → List Int
  | .tuple ds => ds.map unInt
  | _ => []
theorem unPath_pathD (ks : List Int) : unPath (pathD ks) = ks := by
  simp [unPath, pathD, unInt, Function.comp_def]
theorem cmpAll_ints : ∀ a b : List Int, CmpAll (a.map Dat.int) (b.map Dat.int)
  | [], _ => .nilL _
  | _ :: _, [] => .nilR _
  | x :: a, y :: b => .cons (.int x y) (cmpAll_ints a b)
theorem DatsH.ints {h : Heap} : ∀ {vs : List Value} {ns : List Int}, DatsH h vs (ns.map Dat.int) → IntsAre vs ns
  | [], [], _ => .nil
  | [], _ :: _, x => by have := x.length; simp at this
  | _ :: _, [], x => by have := x.length; simp at this
  | v :: vs, n :: ns, x => by
    refine Mine.byv fun P_ kP_ => ?_
    obtain ⟨d, ds, e, hd, hs⟩ := x.uncons
    refine kP_ ?_
    clear kP_ P_
    cases e
    obtain ⟨t, rfl⟩ := hd.unint
    exact .cons n t hs.ints
theorem DatsH.ofInts (h : Heap) : ∀ {vs : List Value} {ns : List Int}, IntsAre vs ns → DatsH h vs (ns.map Dat.int)
  | _, _, .nil => DatsH.nil h
  | _, _, .cons n t r => DatsH.cons (DatH.int h n t) (DatsH.ofInts h r)
section
variable {prog : Program} {w : World} {A : Around} {E : Value → Shared → Prop} {s : Shared} {d : Addr}
theorem IntD.up {h h' : Heap} {c : List (Int × Int)} (x : IntD prog w h d c) (k : ∀ o, h.get? d = some o → h'.get? d = some o) : IntD prog w h' d c :=
  let ⟨kvs, a, b⟩ := x; ⟨kvs, a.at k, b⟩
theorem IntD.nodup {h : Heap} {c : List (Int × Int)} (x : IntD prog w h d c) : (c.map (·.1)).Nodup := by
  refine Mine.byv fun P_ kP_ => ?_
  obtain ⟨kvs, ⟨_, _, _, _, _, _, _, _, hn⟩, b⟩ := x
  refine kP_ ?_
  clear kP_ P_
  rwa [b.keys] at hn
theorem IntD.alive {h : Heap} {c : List (Int × Int)} (x : IntD prog w h d c) : ∃ o, h.get? d = some o := let ⟨_, ⟨o, _, _, ho, _⟩, _⟩ := x; ⟨o, ho⟩
theorem IntD.noTup {h : Heap} {c : List (Int × Int)} (x : IntD prog w h d c) : NoTup h [d] := fun a ha o e => by
  have : a = d := by simpa using ha
  subst this
  refine Mine.byv fun P_ kP_ => ?_
  obtain ⟨_, ⟨o', _, _, ho, hc, _⟩, _⟩ := x
  refine kP_ ?_
  clear kP_ P_
  rw [ho] at e; cases e
  exact fun hh => absurd (hc.1.symm.trans hh.1) (by first | exact nin_nil | exact all_nil | ((repeat (first | exact .head _ | refine .tail _ ?_)); done) | simp)
/-- reading a count -/
theorem IntD.get2 {c : List (Int × Int)} (x : IntD prog w s.heap d c) (lo : (d == sysModules) = false) {k : Int} {t t0 : Tok} {Q : Value → Shared → Prop} (h : ∀ t, Q (.int (cnt c k) t) { s with toks := s.toks + 1 }) :
    wpAny (model prog w) A (call (.builtin "dict.get") [.ref d, .int k t, .int 0 t0]) Q E s := by
  obtain ⟨kvs, hD, hv⟩ := x
  refine call_meetsIn F.slot_dict_get hD.typeIs F.entry_dict_get (F.args_dict_get_3 _ _ _) (meets_dict_get_default (intKind prog w) d (intKind_is prog w k t) lo (.int 0 t0)) ⟨_, hD.mapOf, ?_⟩
  rcases hv.at k with ⟨u, hu⟩ | ⟨hu, hno⟩
  · rw [hu]; exact h u
  · rw [hu]
    have : cnt c k = 0 := by
      have := cnt_append_no (b := []) hno
      rwa [List.append_nil] at this
    rw [← this]; exact h t0
theorem IntD.getItem {c : List (Int × Int)} (x : IntD prog w s.heap d c) {k : Int} {t : Tok} {Q : Value → Shared → Prop} (hk : ∃ p ∈ c, p.1 = k) (h : ∀ t, Q (.int (cnt c k) t) { s with toks := s.toks + 1 }) :
    wpAny (model prog w) A (PySem.getItem (.ref d) (.int k t)) Q E s := by
  obtain ⟨kvs, hD, hv⟩ := x
  rcases hv.at k with ⟨u, hu⟩ | ⟨hu, hno⟩
  · exact wpAny_getItem_of (intKind_is prog w k t) hD.mapOf hu (h u)
  · obtain ⟨p, hp, e⟩ := hk
    exact absurd e (hno p hp)
theorem IntD.setItem {c : List (Int × Int)} (x : IntD prog w s.heap d c) {k n : Int} {t u : Tok} {Q : Unit → Shared → Prop} (hsz : c.length ≤ sizeLine)
    (h : ∀ h', IntD prog w h' d (storeI c k n) → Keeps [d] s.heap h' → Q () { s with heap := h', toks := s.toks + 1 }) :
    wpAny (model prog w) A (PySem.setItem (.ref d) (.int k t) (.int n u)) Q E s := by
  obtain ⟨kvs, hD, hv⟩ := x
  refine wpAny_setItem_pairs (intKind_is prog w k t) hD (fun h' hD' hs => h h' ⟨_, hD', hv.store k n u⟩ fun b o hb e => ?_) (by rw [hv.length]; exact hsz)
  exact (hs.2 b (by first | exact Mine.nin1 (hb) | exact Mine.all1 (hb) | simpa using hb)).trans e
theorem dict_method {kvs : List (Int × Value)} {name : Str} {id : String} {pl : Sem Bool} {Q : Value × List Value → Shared → Prop} (hD : s.heap.DictOf (intKind prog w) d kvs) (slot : Slot "dict" name id) (ty : typeOf (.builtin id) = pure (.type "method_descriptor"))
    (hq : Q (.builtin id, [.ref d]) s) : wpAny (model prog w) A (getMethod (.ref d) name pl) Q E s :=
  getMethod_builtin hD.typeIs F.plainAttrs_dict slot ty hD.mapOf.noDict hq
theorem IntD.method {c : List (Int × Int)} (x : IntD prog w s.heap d c) {name : Str} {id : String} {pl : Sem Bool} {Q : Value × List Value → Shared → Prop} (slot : Slot "dict" name id) (ty : typeOf (.builtin id) = pure (.type "method_descriptor"))
    (hq : Q (.builtin id, [.ref d]) s) : wpAny (model prog w) A (getMethod (.ref d) name pl) Q E s := by
  obtain ⟨kvs, hD, hv⟩ := x
  exact dict_method hD slot ty hq
theorem IntD.items {c : List (Int × Int)} (x : IntD prog w s.heap d c) (lo : (d == sysModules) = false) {Q : Value → Shared → Prop}
    (h : ∀ r h', Sub s.heap h' → h'.IsItemsView r d → Q (.ref r) { s with heap := h' }) : wpAny (model prog w) A (call (.builtin "dict.items") [.ref d]) Q E s := by
  obtain ⟨kvs, hD, hv⟩ := x
  exact call_meetsIn PySem.F.slot_dict_items hD.typeIs PySem.F.entry_dict_items (PySem.F.args_dict_items_1 _) (meets_dict_items _ d lo) ⟨⟨kvs, hD⟩, h _ _ (fun b o e => Heap.get?_push_of_some _ e) ⟨_, Heap.get?_push_size _ rfl, rfl, rfl⟩⟩
theorem IntD.sortedItems {c : List (Int × Int)} (x : IntD prog w s.heap d c) {r : Addr} (hv : s.heap.IsItemsView r d) (hA : A.handled = none) (hu : A.units + 20 < cLine) (hsz : c.length ≤ sizeLine) {Q : Value → Shared → Prop}
    (h : ∀ l out (c' : List (Int × Int)) k h' tk, Sub s.heap h' → s.heap.get? l = none → h'.get? l = some (seqObj "list" out.toArray k) → DatsH h' out (c'.map pairD) → c'.Perm c → Q (.ref l) { s with heap := h', toks := tk }) :
    wpAny (model prog w) A (call (.builtin "sorted") [.ref r]) Q E s := by
  refine Mine.byv fun P_ kP_ => ?_
  obtain ⟨kvs, hD, hi⟩ := x
  obtain ⟨ep, hat⟩ := hD.dictAt
  refine kP_ ?_
  clear kP_ P_
  have col : ∀ (A : Around), A.handled = none → wpAny (model prog w) A (collect (.ref r)) (fun us s₁ => ∃ h₁ tk, s₁ = { s with heap := h₁, toks := tk } ∧ Sub s.heap h₁ ∧ DatsH h₁ us (c.map pairD)) E s := fun A hA => by
    refine kdx_collect hA hv hat (by rw [hi.length]; exact hsz) fun h' tk as hk hl hG => ⟨h', tk, rfl, hk, ?_⟩
    have e1 : (as.map Value.ref).length = c.length := by rw [List.length_map, hl, hi.length]
    have : c.map pairD = (as.map Value.ref).zipIdx.map (fun p => pairD (c.getD p.2 (0, 0))) := by
      refine List.ext_getElem (by first | ((repeat' (first | exact nin_nil | exact all_nil | (refine nin_cons ?_ ?_) | (refine all_cons ?_ ?_) | assumption | exact Ne.symm (by assumption))); done) | simp [hl, hi.length]) fun j h1 h2 => ?_
      have hj : j < c.length := by simpa using h1
      simp [List.getElem?_eq_getElem hj]
    rw [this]
    have gen : ∀ (l : List (Value × Nat)), (∀ p ∈ l, DatH h' p.1 (pairD (c.getD p.2 (0, 0)))) → DatsH h' (l.map (·.1)) (l.map fun p => pairD (c.getD p.2 (0, 0))) := fun l hl => by
      induction l with
      | nil => exact DatsH.nil _
      | cons p l ih => exact DatsH.cons (hl p (.head _)) (ih fun q hq => hl q (.tail _ hq))
    have := gen (as.map Value.ref).zipIdx (fun p hp => ?_)
    · rwa [List.zipIdx_map_fst] at this
    · obtain ⟨v, j⟩ := p
      have hj := List.mem_zipIdx_iff_getElem?.mp hp
      dsimp only at hj ⊢
      rw [List.getElem?_map] at hj
      refine Mine.byv fun P_ kP_ => ?_
      obtain ⟨a, ha, rfl⟩ := Option.map_eq_some_iff.mp hj
      obtain ⟨key, k, y, hky, hkk, ho⟩ := hG.pairs j a ha
      obtain ⟨n, t, rfl⟩ := hi.2 (k, y) (List.mem_of_getElem? hky)
      refine kP_ ?_
      clear kP_ P_
      have hc : c[j]? = some (k, n) := by rw [← hi.1, List.getElem?_map, hky]; rfl
      rw [List.getD_eq_getElem?_getD, hc]
      have hkey : ∃ u, key = .int k u := by
        cases key <;> simp [intKind, Value.isInt] at hkk
        exact ⟨_, by rw [hkk]⟩
      obtain ⟨u, rfl⟩ := hkey
      exact DatH.tuple (vs := [.int k u, .int n t]) ho (DatsH.cons (DatH.int _ _ _) (DatsH.cons (DatH.int _ _ _) (DatsH.nil _)))
  have hs : Sortable 3 (c.map pairD) := .inr ⟨fun d hd => by
      obtain ⟨p, _, rfl⟩ := List.mem_map.mp hd
      rfl, fun d hd => by
      obtain ⟨p, _, rfl⟩ := List.mem_map.mp hd
      exact ⟨_, rfl⟩, fun d hd e he => by
      refine Mine.byv fun P_ kP_ => ?_
      obtain ⟨p, _, rfl⟩ := List.mem_map.mp hd
      obtain ⟨q, _, rfl⟩ := List.mem_map.mp he
      refine kP_ ?_
      clear kP_ P_
      exact .tuple (.cons (.int _ _) (.cons (.int _ _) (.nilL _)))⟩
  refine sorted_any (n := 3) (ds := c.map pairD) (by (first | exact ar29 hu | lia)) hs (by rw [List.length_map]; exact hsz) (col A.in1 hA) fun l out ds' k h' tk a1 a2 a3 a4 a5 _ => ?_
  obtain ⟨c', rfl, hp⟩ := perm_map (f := pairD) (g := unPair) (fun x => rfl) a5
  exact h l out c' k h' tk a1 a2 a3 a4 hp
end
local macro_rules | `(tactic| walk_at "execs cons") => `(tactic| first | (k_here; k_gentoks) | (refine execs_kut ?_; intro $(Lean.mkIdent `kQ):ident $(Lean.mkIdent `hK):ident))
local macro_rules | `(tactic| walk_at "Kut next") => `(tactic| (refine kut_next (by assumption) ?_; (try (refine Mine.wp_let ?_; intro $(Lean.mkIdent `sQ):ident))))
local macro_rules | `(tactic| walk_at "Kut ret") => `(tactic| refine kut_ret (by assumption) ?_)
local macro_rules | `(tactic| walk_at "Kut brk") => `(tactic| refine kut_brk (by assumption) ?_)
local macro_rules | `(tactic| walk_at "Kut cont") => `(tactic| refine kut_cont (by assumption) ?_)
theorem alloc1 {g h h' : Heap} {L d : Addr} {m : Str → Option Value} {own : List (Addr × Obj)} {o : Obj} (F : Fr g L h m) (N : News g L h own) (k : Sub h h') (hn : h.get? d = none) (ho : h'.get? d = some o) : Fr g L h' m ∧ News g L h' ((d, o) :: own) := by
  refine ⟨Fr.use F (k.keeps []) (by first | exact nin_nil | exact all_nil | ((repeat (first | exact .head _ | refine .tail _ ?_)); done) | simp) (by first | exact nin_nil | exact all_nil | ((repeat (first | exact .head _ | refine .tail _ ?_)); done) | simp), fun p hp => ?_⟩
  rcases Mine.mem_sym hp with rfl | hp
  · refine ⟨ho, fun e => ?_, ?_⟩
    · obtain ⟨oL, _, _, hL, _⟩ := F.ns
      rw [← e, hn] at hL; cases hL
    · cases q : g.get? d with
      | none => rfl
      | some o' => have := F.keep _ _ q; rw [hn] at this; cases this
  · exact ⟨k _ _ (N p hp).1, (N p hp).2⟩
theorem IntD.on {prog : Program} {w : World} {h h' : Heap} {d : Addr} {c : List (Int × Int)} {o : Obj} (x : IntD prog w h d c) (e : h.get? d = some o) (e' : h'.get? d = some o) : IntD prog w h' d c :=
  x.up fun o' q => by rw [e] at q; cases q; exact e'
theorem News.set {g h h' : Heap} {L d : Addr} {pre post : List (Addr × Obj)} {o o' : Obj} (N : News g L h (pre ++ (d, o) :: post)) (k : Keeps [d] h h') (hne : ∀ p ∈ pre ++ post, p.1 ≠ d) (e : h'.get? d = some o') : News g L h' (pre ++ (d, o') :: post) := by
  intro p hp
  rcases List.mem_append.mp hp with hp' | hp'
  · have := N p (List.mem_append_left _ hp')
    exact ⟨k _ _ (by first | exact Mine.nin1 (hne p (List.mem_append_left _ hp')) | exact Mine.all1 (hne p (List.mem_append_left _ hp')) | simpa using hne p (List.mem_append_left _ hp')) this.1, this.2⟩
  · rcases List.mem_cons.mp hp' with rfl | hp'
    · exact ⟨e, (N (d, o) (by first | exact nin_nil | exact all_nil | ((repeat (first | exact .head _ | refine .tail _ ?_)); done) | simp)).2⟩
    · have := N p (by first | ((repeat' (first | exact nin_nil | exact all_nil | (refine nin_cons ?_ ?_) | (refine all_cons ?_ ?_) | assumption | exact Ne.symm (by assumption))); done) | simp [hp'])
      exact ⟨k _ _ (by first | exact Mine.nin1 (hne p (List.mem_append_right _ hp')) | exact Mine.all1 (hne p (List.mem_append_right _ hp')) | simpa using hne p (List.mem_append_right _ hp')) this.1, this.2⟩
theorem Fr.mutd {g h h' : Heap} {L d : Addr} {m : Str → Option Value} {news : List (Addr × Obj)} {o : Obj} (F : Fr g L h m) (N : News g L h news) (hm : (d, o) ∈ news) (k : Keeps [d] h h') : Fr g L h' m :=
  Fr.use F k (by first | exact Mine.nin1 (Ne.symm (N _ hm).2.1) | exact Mine.all1 (Ne.symm (N _ hm).2.1) | simpa using Ne.symm (N _ hm).2.1) (by first | exact Mine.nin1 ((N _ hm).2.2) | exact Mine.all1 ((N _ hm).2.2) | simpa using (N _ hm).2.2)
theorem storeI_length (c : List (Int × Int)) (k x : Int) : (storeI c k x).length ≤ c.length + 1 := by
  unfold storeI
  split <;> simp
theorem joinStep_length (b : List (Int × Int)) : ∀ acc, (b.foldl (fun acc x => if x.2 > cnt acc x.1 then storeI acc x.1 x.2 else acc) acc).length ≤ acc.length + b.length := by
  induction b with
  | nil => intro acc; simp
  | cons x b ih =>
    intro acc
    rw [List.foldl_cons, List.length_cons]
    have h1 := ih (if x.2 > cnt acc x.1 then storeI acc x.1 x.2 else acc)
    have h2 := storeI_length acc x.1 x.2
    have h3 : (if x.2 > cnt acc x.1 then storeI acc x.1 x.2 else acc).length ≤ acc.length + 1 := by split <;> lia
    (first | exact ar116 h1 h3 | lia)
theorem ofPairs_length (b : List (Int × Int)) : ∀ acc, (b.foldl (fun acc x => storeI acc x.1 x.2) acc).length ≤ acc.length + b.length := by
  induction b with
  | nil => intro acc; simp
  | cons x b ih =>
    intro acc
    rw [List.foldl_cons, List.length_cons]
    have := ih (storeI acc x.1 x.2)
    have h2 := storeI_length acc x.1 x.2
    (first | exact ar116 this h2 | lia)
/-- what joined_clocks makes of two clocks (but for the order) -/
noncomputable def joinL (a b : List (Int × Int)) : List (Int × Int) := b.foldl (fun acc x => if x.2 > cnt acc x.1 then storeI acc x.1 x.2 else acc) (a.foldl (fun acc x => storeI acc x.1 x.2) [])
section
variable {p : Program} {loose : List Str} {mg mb : Str → Option Value} {w : World} {dp un : Nat} {fr : Option (List Env)} {gd : Option (List Code)} {h₀ : Heap} {s : Shared} {Q : Value → Shared → Prop}
theorem joined_call (X : (hd.heap_1 w.params).In h₀) (T : TopRead p loose mg mb h₀) (H : Sub h₀ s.heap) (hdp : dp + 1 < recursionLimit) (hun : un + 40 < cLine)
  {v u : Value} {a b : List (Int × Int)} (ha : DatH s.heap v (clk a)) (hb : DatH s.heap u (clk b)) (hsz : a.length + b.length ≤ 1000)
  (ret : ∀ r c h' tk', Sub s.heap h' → DatH h' r (clk c) → c.Perm (joinL a b) → Q r {s with heap := h', toks := tk'}) :
  wpAny (model PySem.Challenge.rw_on0014_01.prog w) (Ar dp fr gd un) (call (.ref 35) [v, u]) Q (fun _ _ => False) s := by
  revert X; k_fill; intro X
  refine wpAny_call ?_
  k_dflt (refine' enter (f := 35) [] [("one", v), ("other", u)] X T H ?o ?k1 ?k2 ?k3 ?k4 ?k5 ?k6 ?k7 ?k8 ?k9 ?_; (case o => first | exact Mine.all_nil | simp); (case k1 => k_is); (case k2 => k_is); (case k3 => first | exact Nat.lt_of_le_of_lt (Nat.le_add_right _ _) hdp | lia); (case k4 => rfl); (case k5 => exact locs rfl); (case k6 => decide); (case k7 => rfl); (case k8 => rfl); (case k9 => rfl))
  intro g L h₁ fr' A' e_ s1_ m0 Hg Hs Hk F N X T
  have Hk' : Sub s.heap g := Hk.sub
  refine Mine.byv fun P_ kP_ => ?_
  obtain ⟨aa, vs, na, rfl, ha1, hda⟩ := ha.untuple
  obtain ⟨ab, us, nb, rfl, hb1, hdb⟩ := hb.untuple
  refine kP_ ?_
  clear kP_ P_
  iterate 8 walk1
  refine call_dict_pairs rfl (F.keep _ _ (Hk' _ _ ha1)) (hda.up (Hk'.trans (Fr.toSub F))) (by rw [sizeLine_eq]; (first | exact ar277 hsz | lia)) fun h2 tk2 k2 hD => ?_
  refine Mine.byv fun P_ kP_ => ?_
  obtain ⟨o, ho⟩ := hD.alive
  obtain ⟨F2, N2⟩ := alloc1 F N k2 (Heap.get?_none_of_le (Nat.le_refl _)) ho
  refine kP_ ?_
  clear kP_ P_
  have lo := F.notModules (modules_low T.nolimit)
  (try dsimp only at hD F2 N2 lo ho ⊢)
  generalize h₁.objs.size = D at hD F2 N2 lo ho ⊢
  clear F N k2
  iterate 3 walk1
  refine for_seq rfl ?_ (.inr ⟨_, _, _, rfl⟩)
  walk1
  rename Fr _ _ _ _ => F3
  rename News _ _ _ _ => N3
  refine ⟨ab, us, _, nb, g, _, _, fun i m own => (∃ o, own = [(D, o)] ∧ ∀ h : Heap, h.get? D = some o → IntD PySem.Challenge.rw_on0014_01.prog w h D ((b.take i).foldl (fun acc x => if x.2 > cnt acc x.1 then storeI acc x.1 x.2 else acc) (a.foldl (fun acc x => storeI acc x.1 x.2) []))) ∧
    Same ["number", "count"] m (fun y => if y = Str.ofString "counts" then some (Value.ref D) else List.lookup y [(Str.ofString "one", Value.ref aa), (Str.ofString "other", Value.ref ab)].reverse), rfl, F3.keep _ _ (Hk' _ _ hb1), .inl rfl, rfl, F3, N3, ⟨⟨o, rfl, fun h e => ?_⟩, Same.refl _ _⟩, .inl (Hk' _ _ hb1), ?turn, ?done⟩
  · exact hD.on ho e
  case turn =>
    intro i v m own I oI h tk hv hp9_ F N hI hcl
    refine Mine.byv fun P_ kP_ => ?_
    obtain ⟨⟨o, rfl, hO⟩, hm⟩ := hp9_
    refine kP_ ?_
    clear kP_ P_
    refine Same.elimF hm F ?_
    intro u' mm_ F
    refine Mine.byv fun P_ kP_ => ?_
    obtain ⟨q, hq, b', n', t1, t2, rfl, hb'⟩ := pair_at hdb hv
    refine kP_ ?_
    clear kP_ P_
    refine assign_tuple rfl F N (F.keep _ _ (Hk' _ _ hb')) rfl rfl ?_
    intro h' F' N'
    iterate 14 walk1
    rename Fr _ _ _ _ => F4
    rename News _ _ _ _ => N4
    refine (hO _ (N4 (D, o) (by first | exact nin_nil | exact all_nil | ((repeat (first | exact .head _ | refine .tail _ ?_)); done) | simp)).1).method PySem.F.slot_dict_get PySem.F.type_dict_get ?_
    iterate 6 walk1
    refine IntD.get2 (hO _ (N4 (D, o) (by first | exact nin_nil | exact all_nil | ((repeat (first | exact .head _ | refine .tail _ ?_)); done) | simp)).1) lo fun t3 => ?_
    have hlen : ((b.take i).foldl (fun acc x => if x.2 > cnt acc x.1 then storeI acc x.1 x.2 else acc) (a.foldl (fun acc x => storeI acc x.1 x.2) [])).length ≤ 1000 := by
      have e1 := joinStep_length (b.take i) (a.foldl (fun acc x => storeI acc x.1 x.2) [])
      have e2 := ofPairs_length a []
      have e3 : (b.take i).length ≤ b.length := by rw [List.length_take]; (first | exact ar74 | lia)
      simp only [List.length_nil, Nat.zero_add] at e2
      (first | exact ar438 hsz e1 e3 e2 | lia)
    have htk : b.take (i + 1) = b.take i ++ [q] := by rw [List.take_add_one, hq]; rfl
    k_steps
    · rename_i hgt
      refine IntD.setItem (hO _ (N4 (D, o) (by first | exact nin_nil | exact all_nil | ((repeat (first | exact .head _ | refine .tail _ ?_)); done) | simp)).1) (by rw [sizeLine_eq]; (first | exact ar4 hlen | lia)) fun h5 hD5 k5 => ?_
      obtain ⟨o5, ho5⟩ := hD5.alive
      have F5 := Fr.mutd (o := o) F4 N4 (.tail _ (.head _)) k5
      have N5 := News.set (pre := [(I, oI)]) (post := []) N4 k5 (by first | exact Mine.nin1 (Ne.symm (hI _ (.head _))) | exact Mine.all1 (Ne.symm (hI _ (.head _))) | simpa using Ne.symm (hI _ (.head _))) ho5
      (try clear F4); (try clear N4)
      k_steps
      refine ⟨_, _, _, [(D, o5)], rfl, by assumption, by assumption, by simpa using hI _ (.head _), ⟨o5, rfl, fun h e => ?_⟩, ?_⟩
      · rw [htk, List.foldl_append, List.foldl_cons, List.foldl_nil, if_pos (by (first | exact ar48 hgt | lia))]
        exact hD5.on ho5 e
      · exact (Same.of.put _ _ rfl).put _ _ rfl
    · rename_i hgt
      refine ⟨_, _, _, [(D, o)], rfl, by assumption, by assumption, by simpa using hI _ (.head _), ⟨o, rfl, fun h e => ?_⟩, ?_⟩
      · rw [htk, List.foldl_append, List.foldl_cons, List.foldl_nil, if_neg (by (first | exact ar51 hgt | lia))]
        exact hO h e
      · exact (Same.of.put _ _ rfl).put _ _ rfl
  case done =>
    intro m own h tk hp4_ F N
    refine Mine.byv fun P_ kP_ => ?_
    obtain ⟨⟨o, rfl, hO⟩, hm⟩ := hp4_
    refine kP_ ?_
    clear kP_ P_
    refine Same.elimF hm F ?_
    intro u' mm_ F
    iterate 13 walk1
    rename Fr g L _ _ => F4
    rename News g L _ [(D, o)] => N4
    have hlen : (joinL a b).length ≤ 1000 := by
      have e1 := joinStep_length b (a.foldl (fun acc x => storeI acc x.1 x.2) [])
      have e2 := ofPairs_length a []
      simp only [List.length_nil, Nat.zero_add] at e2
      unfold joinL
      (first | exact ar406 hsz e1 e2 | lia)
    have hl : us.length = b.length := by simpa using hdb.length
    have hD4 := hO _ (N4 (D, o) (by first | exact nin_nil | exact all_nil | ((repeat (first | exact .head _ | refine .tail _ ?_)); done) | simp)).1
    rw [hl, List.take_length] at hD4
    change IntD _ _ _ _ (joinL a b) at hD4
    refine hD4.method PySem.F.slot_dict_items PySem.F.type_dict_items ?_
    walk1
    refine hD4.items lo fun r h5 k5 hv5 => ?_
    have F5 := Fr.use F4 (k5.keeps []) (by first | exact nin_nil | exact all_nil | ((repeat (first | exact .head _ | refine .tail _ ?_)); done) | simp) (by first | exact nin_nil | exact all_nil | ((repeat (first | exact .head _ | refine .tail _ ?_)); done) | simp)
    have N5 := News.use N4 (k5.keeps []) (by first | exact nin_nil | exact all_nil | ((repeat (first | exact .head _ | refine .tail _ ?_)); done) | simp)
    have hD5 := hD4.up fun o e => k5 _ _ e
    (try clear F4); (try clear N4)
    walk1
    refine IntD.sortedItems hD5 hv5 rfl (Mine.room hun) (by rw [sizeLine_eq]; (first | exact ar4 hlen | lia)) fun l out c' k h6 tk6 k6 hn6 ho6 hd6 hp6 => ?_
    obtain ⟨F6, N6⟩ := alloc1 F5 N5 k6 hn6 ho6
    (try clear F5); (try clear N5)
    walk1
    refine call_tuple_list ⟨_, ho6, rfl, _, rfl⟩ (fun h7 k7 => ?_) (by rw [sizeLine_eq]; have h1 := hd6.length; have h2 := hp6.length_eq; rw [List.length_map] at h1; show out.toArray.size ≤ _; simp only [List.size_toArray]; (first | exact ar373 hlen h1 h2 | lia))
    (try k_steps)
    show Q _ _
    (try k_steps)
    refine ret _ c' _ _ (Hk'.trans ((Fr.toSub F6).trans fun b o e => Heap.get?_push_of_some _ (k7 b o e))) (DatH.tuple (vs := out) (n := 0) (Heap.get?_push_size _ rfl) (hd6.up fun b o e => Heap.get?_push_of_some _ (k7 b o e))) hp6
end
section
variable {prog : Program} {w : World} {A : Around} {E : Value → Shared → Prop} {s : Shared}
theorem adjust_to (k n : Nat) : Builtin.Slice.sliceAdjust none (some (k : Int)) 1 (n : Int) = (0, ((min k n : Nat) : Int)) := by
  unfold Builtin.Slice.sliceAdjust
  have h1 : ¬ ((1 : Int) < 0) := by (first | exact ar145 | lia)
  have h2 : ¬ ((k : Int) < 0) := by (first | exact ar205 | lia)
  simp only [h1, h2, if_false]
  congr 1
  lia
theorem places_to (m : Nat) : Builtin.Slice.slicePlaces 0 (m : Int) 1 = m := by
  unfold Builtin.Slice.slicePlaces
  have h1 : (1 : Int) > 0 := by (first | exact ar133 | lia)
  simp only [h1, if_true, Int.ediv_one]
  split <;> lia
theorem pick_to (vs : List Value) (m : Nat) (hm : m ≤ vs.length) : ((List.range m).filterMap fun (k : Nat) => vs.toArray[((0 : Int) + (k : Int) * 1).toNat]?) = vs.take m := by
  have e : (fun (k : Nat) => vs.toArray[((0 : Int) + (k : Int) * 1).toNat]?) = fun k => vs[k]? := by
    funext k
    have : ((0 : Int) + (k : Int) * 1).toNat = k := by lia
    rw [this]; simp
  rw [e]
  induction m with
  | zero => simp
  | succ m ih =>
    rw [List.range_succ, List.filterMap_append, ih (by (first | exact ar269 hm | lia)), List.take_add_one]
    have : vs[m]? = some (vs[m]'(by (first | exact ar78 hm | lia))) := List.getElem?_eq_getElem (by (first | exact ar78 hm | lia))
    simp [this]
theorem getItem_to {t sl : Addr} {vs : List Value} {n k : Nat} {u : Tok} {Q : Value → Shared → Prop} (ht : s.heap.get? t = some (tupObj vs n)) (hs : s.heap.IsSliceOf sl .none (.int k u) .none)
    (h1 : vs.length ≤ k → Q (.ref t) s) (h2 : k < vs.length → Q (.ref s.heap.objs.size) { s with heap := s.heap.push (tupObj (vs.take k) 0) }) (hsz : vs.length ≤ sizeLine) : wpAny (model prog w) A (getItem (.ref t) (.ref sl)) Q E s := by
  have hT : s.TypeIs (.ref t) "tuple" := ⟨_, ht, rfl⟩
  refine Mine.byv fun P_ kP_ => ?_
  obtain ⟨os, hos, hcs, hds⟩ := id hs
  refine kP_ ?_
  clear kP_ P_
  have hTs : s.TypeIs (.ref sl) "slice" := ⟨os, hos, hcs⟩
  unfold getItem
  try with_reducible refine wpAny_holding ?_
  refine wpAny_bind (wpAny_sequenceKey hT (by decide) ?_)
  refine wpAny_bind (wpAny_callSpecial?_slot (name := Str.ofString "__getitem__") hT slot_tuple_getitem
    (wpAny_call_entry slot_tuple_getitem hT entry_tuple_getitem ?_ (args_tuple_getitem _ _)))
  show wpAny _ _ (Builtin.Tuple.tupleItemsOf (.ref t) >>= _) _ _ s
  refine wpAny_bind (wpAny_tupleItemsOf ht rfl ?_)
  refine wpAny_bind (wpAny_typeOf hTs ?_)
  rw [if_pos (by decide)]
  have hsa : ∀ (Q : Int × Int × Nat → Shared → Prop), Q (0, 1, min k vs.length) s → wpAny (model prog w) A.in1 (Builtin.Slice.sliceApplied (.ref sl) (pure (vs.toArray.size : Int))) Q E s := fun Q hQ => by
    unfold Builtin.Slice.sliceApplied Builtin.Slice.sliceFields
    refine wpAny_bind (wpAny_bind (wpAny_field hos hds (x := .none) rfl (wpAny_bind (wpAny_field hos hds (x := .int k u) rfl (wpAny_bind (wpAny_field hos hds (x := .none) rfl (wpAny_pure ?_)))))))
    refine wpAny_bind (slicePart_none ?_)
    show wpAny _ _ (if ((1 : Int) == 0) = true then _ else _) _ _ s
    rw [if_neg (by decide)]
    refine wpAny_bind (slicePart_none (wpAny_bind (slicePart_int (wpAny_bind (wpAny_pure ?_)))))
    show wpAny _ _ (match Builtin.Slice.sliceAdjust none (some (k : Int)) 1 (vs.toArray.size : Int) with | (lo, hi) => pure (lo, (1 : Int), Builtin.Slice.slicePlaces lo hi 1)) _ _ s
    rw [adjust_to]
    (try dsimp only)
    rw [places_to]
    refine wpAny_pure ?_
    simpa using hQ
  refine wpAny_bind (hsa _ ?_)
  (try dsimp only)
  by_cases hk : vs.length ≤ k
  · rw [if_pos (by simp; (first | exact ar320 hk | lia))]
    refine wpAny_bind (wpAny_bind (wpAny_typeOf hT (wpAny_pure ?_)))
    rw [if_pos (by decide)]
    exact wpAny_bind (wpAny_rule (wpAny_pure ⟨_, rfl, wpAny_pure (h1 hk)⟩))
  · rw [if_neg (by simp; (first | exact ar332 hk | lia))]
    rw [pick_to vs _ (by (first | exact ar74 | lia)), Nat.min_eq_left (by (first | exact ar331 hk | lia))]
    have hok : sizeOk (.seq (vs.take k).toArray) := by
      show (vs.take k).toArray.size ≤ sizeLine
      simp; (first | exact ar384 hsz | lia)
    exact wpAny_bind (m := Builtin.Tuple.tupleExact _) (wpAny_newObj_type (wpAny_pure ⟨_, rfl, wpAny_pure (h2 (by (first | exact ar330 hk | lia)))⟩) hok)
theorem DatsH.take {h : Heap} : ∀ {vs : List Value} {ds : List Dat} (k : Nat), DatsH h vs ds → DatsH h (vs.take k) (ds.take k)
  | _, _, 0, _ => by simpa using DatsH.nil h
  | [], ds, k + 1, x => by
    have := x.length
    obtain rfl : ds = [] := List.length_eq_zero_iff.mp this.symm
    simpa using DatsH.nil h
  | v :: vs, ds, k + 1, x => by
    refine Mine.byv fun P_ kP_ => ?_
    obtain ⟨d, ds', rfl, hd, hs⟩ := x.uncons
    refine kP_ ?_
    clear kP_ P_
    exact DatsH.cons hd (hs.take k)
theorem path_tail {g : Heap} {L : Addr} {m : Str → Option Value} {own : List (Addr × Obj)} {value slice : Expr} {t : Addr} {vs : List Value} {n k : Nat} {u : Tok} {b : List Int} {Q : Value → Shared → Prop} (F : Fr g L s.heap m) (N : News g L s.heap own)
    (ht : s.heap.get? t = some (tupObj vs n)) (hd : DatsH s.heap vs (b.map Dat.int)) (hsz : b.length ≤ 10000)
    (h : ∀ r h', Fr g L h' m → News g L h' own → Sub s.heap h' → DatH h' r (pathD (b.take k)) → Q r { s with heap := h' })
    (hs : subscripted slice false (.ref t) (.ref s.heap.objs.size) = operate [.ref s.heap.objs.size, .ref t] (getItem (.ref t) (.ref s.heap.objs.size)) := by with_unfolding_all rfl)
    (hg : ∀ r, letTemporaryGo value (.ref t) r = pure () := by intro _; with_unfolding_all rfl) :
    wpAny (model prog w) A (subscriptTail value slice (.ref t) (.ref s.heap.objs.size)) Q E { s with heap := s.heap.push { cls := .type "slice", data := .fields #[.none, .int k u, .none] } } := by
  have k1 : Sub s.heap (s.heap.push { cls := .type "slice", data := .fields #[.none, .int k u, .none] }) := fun b o e => Heap.get?_push_of_some _ e
  have hl : vs.length = b.length := by simpa using hd.length
  refine subscriptTail_ops (s := { s with heap := s.heap.push { cls := .type "slice", data := .fields #[.none, .int k u, .none] } }) (T := "tuple") ⟨_, k1 _ _ ht, rfl⟩ slot_tuple_getitem.lookup
    (getItem_to (k1 _ _ ht) (Heap.IsSliceOf.new ..) (fun hk => ?_) (fun hk => ?_) (by rw [sizeLine_eq]; (first | exact ar308 hsz hl | lia))) hs hg
  · refine h _ _ (F.push _) (News.use N (k1.keeps []) (by first | exact nin_nil | exact all_nil | ((repeat (first | exact .head _ | refine .tail _ ?_)); done) | simp)) k1 (DatH.tuple (k1 _ _ ht) ?_)
    rw [List.take_of_length_le (by (first | exact ar369 hl hk | lia))]
    exact hd.up k1
  · have k2 : Sub s.heap ((s.heap.push { cls := .type "slice", data := .fields #[.none, .int k u, .none] }).push (tupObj (vs.take k) 0)) := k1.trans fun b o e => Heap.get?_push_of_some _ e
    refine h _ _ ((F.push _).push _) (News.use N (k2.keeps []) (by first | exact nin_nil | exact all_nil | ((repeat (first | exact .head _ | refine .tail _ ?_)); done) | simp)) k2 (DatH.tuple (Heap.get?_push_size _ rfl) ?_)
    rw [List.map_take]
    exact (hd.up k2).take k
end
section
variable {p : Program} {loose : List Str} {mg mb : Str → Option Value} {w : World} {dp un : Nat} {fr : Option (List Env)} {gd : Option (List Code)} {h₀ : Heap} {s : Shared} {Q : Value → Shared → Prop}
theorem pathD_ok (a : List Int) : kqdOk 2 (pathD a) = true := by simp [pathD, kqdOk]
theorem ticked_call (X : (hd.heap_1 w.params).In h₀) (T : TopRead p loose mg mb h₀) (H : Sub h₀ s.heap) (hdp : dp + 2 < recursionLimit) (hun : un + 50 < cLine)
  {v : Value} {a : List (Int × Int)} {x : Int} {t : Tok} (ha : DatH s.heap v (clk a)) (hsz : a.length ≤ 900)
  (ret : ∀ r c h' tk', Sub s.heap h' → DatH h' r (clk c) → c.Perm (joinL a [(x, cnt a x + 1)]) → Q r {s with heap := h', toks := tk'}) :
  wpAny (model PySem.Challenge.rw_on0014_01.prog w) (Ar dp fr gd un) (call (.ref 42) [v, .int x t]) Q (fun _ _ => False) s := by
  revert X; k_fill; intro X
  refine wpAny_call ?_
  k_dflt (refine' enter (f := 42) [] [("clock", v), ("goroutine", .int x t)] X T H ?o ?k1 ?k2 ?k3 ?k4 ?k5 ?k6 ?k7 ?k8 ?k9 ?_; (case o => first | exact Mine.all_nil | simp); (case k1 => k_is); (case k2 => k_is); (case k3 => first | exact Nat.lt_of_le_of_lt (Nat.le_add_right _ _) hdp | lia); (case k4 => rfl); (case k5 => exact locs rfl); (case k6 => decide); (case k7 => rfl); (case k8 => rfl); (case k9 => rfl))
  intro g L h₁ fr' A' e_ s1_ m0 Hg Hs Hk F N X T
  have Hk' : Sub s.heap g := Hk.sub
  iterate 24 walk1
  refine count_call X T (Fr.toSub (by assumption)) (Mine.room hdp) (Mine.room hun) (ha.up (Hk'.trans (Fr.toSub (by assumption)))) fun t' h2 tk2 k2 => ?_
  have F2 := Fr.use ‹Fr g L _ _› (k2.keeps []) (by first | exact nin_nil | exact all_nil | ((repeat (first | exact .head _ | refine .tail _ ?_)); done) | simp) (by first | exact nin_nil | exact all_nil | ((repeat (first | exact .head _ | refine .tail _ ?_)); done) | simp)
  have N2 := News.use ‹News g L _ _› (k2.keeps []) (by first | exact nin_nil | exact all_nil | ((repeat (first | exact .head _ | refine .tail _ ?_)); done) | simp)
  (try clear F); (try clear N)
  iterate 8 walk1
  rename Fr g L _ _ => F4
  rename News g L _ _ => N4
  have hb : DatH _ _ (clk [(x, cnt a x + 1)]) := DatH.tuple (n := 0) (vs := [_]) (N4 _ (.head _)).1 (DatsH.cons (DatH.tuple (n := 0) (vs := [_, _]) (N4 _ (.tail _ (.head _))).1 (DatsH.cons (DatH.int _ x t) (DatsH.cons (DatH.int _ (cnt a x + 1) _) (DatsH.nil _)))) (DatsH.nil _))
  refine joined_call X T (Fr.toSub F4) (Mine.room hdp) (Mine.room hun) (ha.up (Hk'.trans (Fr.toSub F4))) hb (by simp; (first | exact ar237 hsz | lia)) fun r c h5 tk5 k5 hd5 hp5 => ?_
  (try k_steps)
  exact ret r c _ _ (Hk'.trans ((Fr.toSub F4).trans k5)) hd5 hp5
theorem ahead_call (X : (hd.heap_1 w.params).In h₀) (T : TopRead p loose mg mb h₀) (H : Sub h₀ s.heap) (hdp : dp + 2 < recursionLimit) (hun : un + 50 < cLine)
  {v u : Value} {a b : List Int} (ha : DatH s.heap v (pathD a)) (hb : DatH s.heap u (pathD b)) (hsz : a.length + b.length ≤ 1000)
  (ret : ∀ r h' tk', Sub s.heap h' → (r = true ↔ b.take a.length = a) → Q (.bool r) {s with heap := h', toks := tk'}) :
  wpAny (model PySem.Challenge.rw_on0014_01.prog w) (Ar dp fr gd un) (call (.ref 49) [v, u]) Q (fun _ _ => False) s := by
  revert X; k_fill; intro X
  refine wpAny_call ?_
  k_dflt (refine' enter (f := 49) [] [("one", v), ("other", u)] X T H ?o ?k1 ?k2 ?k3 ?k4 ?k5 ?k6 ?k7 ?k8 ?k9 ?_; (case o => first | exact Mine.all_nil | simp); (case k1 => k_is); (case k2 => k_is); (case k3 => first | exact Nat.lt_of_le_of_lt (Nat.le_add_right _ _) hdp | lia); (case k4 => rfl); (case k5 => exact locs rfl); (case k6 => decide); (case k7 => rfl); (case k8 => rfl); (case k9 => rfl))
  intro g L h₁ fr' A' e_ s1_ m0 Hg Hs Hk F N X T
  have Hk' : Sub s.heap g := Hk.sub
  refine Mine.byv fun P_ kP_ => ?_
  obtain ⟨aa, vs, na, rfl, ha1, hda⟩ := ha.untuple
  obtain ⟨ab, us, nb, rfl, hb1, hdb⟩ := hb.untuple
  refine kP_ ?_
  clear kP_ P_
  iterate 14 walk1
  rename Fr g L _ _ => F4
  have hla : vs.length = a.length := by simpa using hda.length
  have hlb : us.length = b.length := by simpa using hdb.length
  refine PySem.P.len_tuple (n := na) (items := vs.toArray) (F4.keep _ _ (Hk' _ _ ha1)) (by simp; (first | exact ar101 hsz hla | lia)) ?_
  walk1
  refine path_tail (u := _) F4 ‹News g L _ _› (F4.keep _ _ (Hk' _ _ hb1)) (hdb.up (Hk'.trans (Fr.toSub F4))) (by (first | exact ar79 hsz | lia)) fun r h5 F5 N5 k5 hd5 => ?_
  (try clear F); (try clear N); (try clear F4)
  walk1
  refine eq_dat (n := 2) (pathD_ok _) (pathD_ok _) hd5 (ha.up (Hk'.trans (Fr.toSub F5))) (Mine.room hun) fun r hr => ?_
  (try k_steps)
  refine ret r _ _ (Hk'.trans (Fr.toSub F5)) (hr.trans ?_)
  have e : vs.toArray.size = a.length := by simpa using hla
  rw [e]
  exact ⟨fun q => by have := congrArg unPath q; rwa [unPath_pathD, unPath_pathD] at this, fun q => by rw [q]⟩
/-- one path lies ahead of the other, one way or the other -/
noncomputable def meetB (a b : List Int) : Bool := decide (b.take a.length = a) || decide (a.take b.length = b)
theorem meet_call (X : (hd.heap_1 w.params).In h₀) (T : TopRead p loose mg mb h₀) (H : Sub h₀ s.heap) (hdp : dp + 3 < recursionLimit) (hun : un + 60 < cLine)
  {v u : Value} {a b : List Int} (ha : DatH s.heap v (pathD a)) (hb : DatH s.heap u (pathD b)) (hsz : a.length + b.length ≤ 1000)
  (ret : ∀ h' tk', Sub s.heap h' → Q (.bool (meetB a b)) {s with heap := h', toks := tk'}) :
  wpAny (model PySem.Challenge.rw_on0014_01.prog w) (Ar dp fr gd un) (call (.ref 56) [v, u]) Q (fun _ _ => False) s := by
  revert X; k_fill; intro X
  refine wpAny_call ?_
  k_dflt (refine' enter (f := 56) [] [("one", v), ("other", u)] X T H ?o ?k1 ?k2 ?k3 ?k4 ?k5 ?k6 ?k7 ?k8 ?k9 ?_; (case o => first | exact Mine.all_nil | simp); (case k1 => k_is); (case k2 => k_is); (case k3 => first | exact Nat.lt_of_le_of_lt (Nat.le_add_right _ _) hdp | lia); (case k4 => rfl); (case k5 => exact locs rfl); (case k6 => decide); (case k7 => rfl); (case k8 => rfl); (case k9 => rfl))
  intro g L h₁ fr' A' e_ s1_ m0 Hg Hs Hk F N X T
  have Hk' : Sub s.heap g := Hk.sub
  iterate 12 walk1
  refine ahead_call X T (Fr.toSub F) (Mine.room hdp) (Mine.room hun) (ha.up (Hk'.trans (Fr.toSub F))) (hb.up (Hk'.trans (Fr.toSub F))) hsz fun r h5 tk5 k5 hr => ?_
  have F5 := Fr.use F (k5.keeps []) (by first | exact nin_nil | exact all_nil | ((repeat (first | exact .head _ | refine .tail _ ?_)); done) | simp) (by first | exact nin_nil | exact all_nil | ((repeat (first | exact .head _ | refine .tail _ ?_)); done) | simp)
  have N5 := News.use N (k5.keeps []) (by first | exact nin_nil | exact all_nil | ((repeat (first | exact .head _ | refine .tail _ ?_)); done) | simp)
  (try clear F); (try clear N)
  cases r with
  | true =>
    k_steps
    have e : meetB a b = true := by simp [meetB, hr.mp rfl]
    rw [← e]
    (try k_steps)
    exact ret _ _ (Hk'.trans (Fr.toSub F5))
  | false =>
    iterate 12 walk1
    have e1 : ¬ b.take a.length = a := fun q => by have := hr.mpr q; cases this
    refine ahead_call X T (Fr.toSub F5) (Mine.room hdp) (Mine.room hun) (hb.up (Hk'.trans (Fr.toSub F5))) (ha.up (Hk'.trans (Fr.toSub F5))) (by (first | exact ar278 hsz | lia)) fun r h6 tk6 k6 hr6 => ?_
    have e : meetB a b = r := by
      cases r with
      | true => simp [meetB, hr6.mp rfl]
      | false =>
        have e2 : ¬ a.take b.length = b := fun q => by have := hr6.mpr q; cases this
        simp [meetB, e1, e2]
    rw [← e]
    (try k_steps)
    exact ret _ _ (Hk'.trans ((Fr.toSub F5).trans k6))
end
noncomputable def upd {α : Type} (f : Int → Option α) (k : Int) (d : α) : Int → Option α := fun x => if x = k then some d else f x
/-- an int dict whose values are data -/
noncomputable def DM (prog : Program) (w : World) (h : Heap) (d : Addr) (n : Nat) (f : Int → Option Dat) : Prop :=
  ∃ kvs, h.DictOf (intKind prog w) d kvs ∧ kvs.length ≤ n ∧ (d == sysModules) = false ∧ ∀ x, (valueAt kvs x = none ∧ f x = none) ∨ ∃ v dd, valueAt kvs x = some v ∧ f x = some dd ∧ DatH h v dd
theorem valueAt_stored (kvs : List (Int × Value)) (k : Int) (v : Value) (x : Int) : valueAt (stored kvs k v) x = if x = k then some v else valueAt kvs x := by
  unfold stored
  by_cases q : kvs.any (fun kv => decide (kv.1 = k)) = true
  · rw [if_pos q]
    induction kvs with
    | nil => simp at q
    | cons kv kvs ih =>
      by_cases e : kv.1 = k
      · by_cases ex : x = k
        · subst ex; simp [valueAt, List.find?_cons, e]
        · rw [if_neg ex]
          have hne : ¬ kv.1 = x := fun h => ex (by rw [← h, e])
          have gen : ∀ l : List (Int × Value), valueAt (l.map fun kv => if kv.1 = k then (kv.1, v) else kv) x = valueAt l x := fun l => by
            induction l with
            | nil => rfl
            | cons p l ih =>
              by_cases ep : p.1 = k
              · have : ¬ p.1 = x := fun h => ex (by rw [← h, ep])
                have t : ¬ k = x := fun h => ex h.symm
                simp only [valueAt, List.map_cons, if_pos ep, List.find?_cons, this, decide_false] at ih ⊢
                exact ih
              · simp only [valueAt, List.map_cons, if_neg ep, List.find?_cons] at ih ⊢
                split <;> simp_all
          exact gen _
      · have q' : kvs.any (fun kv => decide (kv.1 = k)) = true := by simpa [e] using q
        have := ih q'
        simp only [valueAt, List.map_cons, if_neg e, List.find?_cons] at this ⊢
        by_cases ek : kv.1 = x
        · have : ¬ x = k := fun h => e (by rw [ek, h])
          simp [ek, this]
        · simp only [ek, decide_false]
          exact this
  · rw [if_neg q]
    unfold valueAt
    rw [List.find?_append]
    by_cases ex : x = k
    · subst ex
      have : kvs.find? (fun kv => decide (kv.1 = x)) = none := by
        rw [List.find?_eq_none]
        intro kv hkv he
        exact q (List.any_eq_true.mpr ⟨kv, hkv, he⟩)
      simp [this]
    · have t : ¬ k = x := fun h => ex h.symm
      simp [ex, t]
section
variable {prog : Program} {w : World} {A : Around} {E : Value → Shared → Prop} {s : Shared} {d : Addr} {n : Nat} {f : Int → Option Dat}
theorem DM.alive {h : Heap} (x : DM prog w h d n f) : ∃ o, h.get? d = some o := let ⟨_, ⟨o, _, _, ho, _⟩, _⟩ := x; ⟨o, ho⟩
theorem DM.noTup {h : Heap} (x : DM prog w h d n f) : NoTup h [d] := fun a ha o e => by
  have : a = d := by simpa using ha
  subst this
  refine Mine.byv fun P_ kP_ => ?_
  obtain ⟨_, ⟨o', _, _, ho, hc, _⟩, _⟩ := x
  refine kP_ ?_
  clear kP_ P_
  rw [ho] at e; cases e
  exact fun hh => absurd (hc.1.symm.trans hh.1) (by first | exact nin_nil | exact all_nil | ((repeat (first | exact .head _ | refine .tail _ ?_)); done) | simp)
theorem DM.keeps {h h' : Heap} {fp : List Addr} (x : DM prog w h d n f) (k : Keeps fp h h') (hd : d ∉ fp) (nt : NoTup h fp) : DM prog w h' d n f := by
  refine Mine.byv fun P_ kP_ => ?_
  obtain ⟨kvs, a, b, c, e⟩ := x
  refine kP_ ?_
  clear kP_ P_
  refine ⟨kvs, a.at fun o q => k _ _ hd q, b, c, fun x => (e x).imp id fun ⟨v, dd, h1, h2, h3⟩ => ⟨v, dd, h1, h2, h3.keeps k nt⟩⟩
theorem DM.up {h h' : Heap} (x : DM prog w h d n f) (k : Sub h h') : DM prog w h' d n f := x.keeps (fp := []) (k.keeps []) (by first | exact nin_nil | exact all_nil | ((repeat (first | exact .head _ | refine .tail _ ?_)); done) | simp) (fun a ha => by cases ha)
theorem DM.mono {h : Heap} {m : Nat} (x : DM prog w h d n f) (hm : n ≤ m) : DM prog w h d m f := let ⟨kvs, a, b, r⟩ := x; ⟨kvs, a, Nat.le_trans b hm, r⟩
theorem DM.notIn {vs : Heap} (D : DM prog w vs d n f) (V : Sub vs s.heap) {k : Int} {t : Tok} {Q : Value → Shared → Prop} (h : Q (.bool (!(f k).isSome)) { s with toks := s.toks + 1 }) : wpAny (model prog w) A (compareOp .NotIn (.int k t) (.ref d)) Q E s := by
  refine Mine.byv fun P_ kP_ => ?_
  obtain ⟨kvs, a, b, c, e⟩ := D
  refine kP_ ?_
  clear kP_ P_
  refine wpAny_notIn_of (intKind_is prog w k t) c (a.keep V).mapOf ?_
  have : (valueAt kvs k).isSome = (f k).isSome := by
    rcases e k with ⟨h1, h2⟩ | ⟨v, dd, h1, h2, _⟩ <;> rw [h1, h2] <;> rfl
  rw [this]; exact h
theorem DM.notIn_none {vs : Heap} (D : DM prog w vs d n f) (V : Sub vs s.heap) {k : Int} {t : Tok} {Q : Value → Shared → Prop} (hf : f k = none) (h : Q (.bool true) { s with toks := s.toks + 1 }) : wpAny (model prog w) A (compareOp .NotIn (.int k t) (.ref d)) Q E s :=
  D.notIn V (by rw [hf]; exact h)
theorem DM.notIn_some {vs : Heap} (D : DM prog w vs d n f) (V : Sub vs s.heap) {k : Int} {t : Tok} {dd : Dat} {Q : Value → Shared → Prop} (hf : f k = some dd) (h : Q (.bool false) { s with toks := s.toks + 1 }) : wpAny (model prog w) A (compareOp .NotIn (.int k t) (.ref d)) Q E s :=
  D.notIn V (by rw [hf]; exact h)
theorem DM.getItem {vs : Heap} (D : DM prog w vs d n f) (V : Sub vs s.heap) {k : Int} {t : Tok} {dd : Dat} {Q : Value → Shared → Prop} (hk : f k = some dd) (h : ∀ v, DatH vs v dd → Q v { s with toks := s.toks + 1 }) : wpAny (model prog w) A (PySem.getItem (.ref d) (.int k t)) Q E s := by
  refine Mine.byv fun P_ kP_ => ?_
  obtain ⟨kvs, a, b, c, e⟩ := D
  refine kP_ ?_
  clear kP_ P_
  rcases e k with ⟨h1, h2⟩ | ⟨v, dd', h1, h2, h3⟩
  · rw [hk] at h2; cases h2
  · rw [hk] at h2; cases h2
    exact wpAny_getItem_of (intKind_is prog w k t) (a.keep V).mapOf h1 (h v h3)
theorem DM.tail {vs : Heap} (D : DM prog w vs d n f) (V : Sub vs s.heap) {value slice : Expr} {k : Int} {t : Tok} {dd : Dat} {Q : Value → Shared → Prop} (hk : f k = some dd) (h : ∀ v, DatH vs v dd → Q v { s with toks := s.toks + 1 })
    (hs : subscripted slice false (.ref d) (.int k t) = operate [.ref d, .int k t] (PySem.getItem (.ref d) (.int k t)) := by with_unfolding_all rfl) : wpAny (model prog w) A (subscriptTail value slice (.ref d) (.int k t)) Q E s := by
  have hT : s.TypeIs (.ref d) "dict" := by
    obtain ⟨kvs, a, _⟩ := D
    exact (a.keep V).typeIs
  exact tail_any hT slot_dict_getitem.lookup (D.getItem V hk h) hs
theorem DM.get2 {vs : Heap} (D : DM prog w vs d n f) (V : Sub vs s.heap) {k : Int} {t : Tok} {u : Value} {du : Dat} {Q : Value → Shared → Prop} (hu : DatH vs u du) (h : ∀ v, DatH vs v ((f k).getD du) → Q v { s with toks := s.toks + 1 }) :
    wpAny (model prog w) A (call (.builtin "dict.get") [.ref d, .int k t, u]) Q E s := by
  refine Mine.byv fun P_ kP_ => ?_
  obtain ⟨kvs, a, b, c, e⟩ := D
  refine kP_ ?_
  clear kP_ P_
  refine call_meetsIn PySem.F.slot_dict_get (a.keep V).typeIs PySem.F.entry_dict_get (PySem.F.args_dict_get_3 _ _ _) (meets_dict_get_default (intKind prog w) d (intKind_is prog w k t) c u) ⟨_, (a.keep V).mapOf, ?_⟩
  rcases e k with ⟨h1, h2⟩ | ⟨v, dd', h1, h2, h3⟩
  · rw [h1]; exact h u (by rw [h2]; exact hu)
  · rw [h1]; exact h v (by rw [h2]; exact h3)
theorem DM.method {vs : Heap} (D : DM prog w vs d n f) (V : Sub vs s.heap) {name : Str} {id : String} {pl : Sem Bool} {Q : Value × List Value → Shared → Prop} (slot : Slot "dict" name id) (ty : typeOf (.builtin id) = pure (.type "method_descriptor"))
    (hq : Q (.builtin id, [.ref d]) s) : wpAny (model prog w) A (getMethod (.ref d) name pl) Q E s := by
  obtain ⟨kvs, a, _⟩ := D
  exact dict_method (a.keep V) slot ty hq
theorem DM.setItem {vs : Heap} (D : DM prog w vs d n f) (V : Sub vs s.heap) {k : Int} {t : Tok} {v : Value} {dd : Dat} {Q : Unit → Shared → Prop} (hv : DatH vs v dd) (hn : n ≤ 1000)
    (h : ∀ v' h', Post s.heap vs v' h' [d] → DM prog w v' d (n + 1) (upd f k dd) → Q () { s with heap := h', toks := s.toks + 1 }) : wpAny (model prog w) A (PySem.setItem (.ref d) (.int k t) v) Q E s := by
  have nt := D.noTup
  have al := D.alive
  refine Mine.byv fun P_ kP_ => ?_
  obtain ⟨kvs, a, b, c, e⟩ := D
  refine kP_ ?_
  clear kP_ P_
  refine wpAny_setItem_pairs (intKind_is prog w k t) (a.keep V) (fun h' hD' hs => ?_) (by rw [sizeLine_eq]; (first | exact ar307 hn b | lia))
  have hk : Keeps [d] s.heap h' := fun b o hb e => (hs.2 b (by first | exact Mine.nin1 (hb) | exact Mine.all1 (hb) | simpa using hb)).trans e
  refine Mine.byv fun P_ kP_ => ?_
  obtain ⟨o, ho, hO⟩ := Heap.dictOf_iff.mp hD'
  obtain ⟨v', P, hv'⟩ := Post.one V al hk ho
  refine kP_ ?_
  clear kP_ P_
  refine h v' h' P ⟨_, Heap.dictOf_iff.mpr ⟨o, hv', hO⟩, Nat.le_trans (stored_length_le ..) (by (first | exact ar318 b | lia)), c, fun x => ?_⟩
  rw [valueAt_stored]
  unfold upd
  by_cases ex : x = k
  · rw [if_pos ex, if_pos ex]
    exact .inr ⟨v, dd, rfl, rfl, hv.keeps P.keeps nt⟩
  · rw [if_neg ex, if_neg ex]
    exact (e x).imp id fun ⟨v, dd, h1, h2, h3⟩ => ⟨v, dd, h1, h2, h3.keeps P.keeps nt⟩
end
/-- a watch's own dict -/
noncomputable abbrev watchD (w : World) (t1 t2 t3 t4 t5 : Tok) (C Ln G P R : Addr) : Obj :=
  dictOf [{ hash := PyData.keyHash w.params (Str.ofString "clocks"), key := .str (Str.ofString "clocks") t1, val := .ref C }, { hash := PyData.keyHash w.params (Str.ofString "lines"), key := .str (Str.ofString "lines") t2, val := .ref Ln },
    { hash := PyData.keyHash w.params (Str.ofString "gates"), key := .str (Str.ofString "gates") t3, val := .ref G }, { hash := PyData.keyHash w.params (Str.ofString "places"), key := .str (Str.ofString "places") t4, val := .ref P },
    { hash := PyData.keyHash w.params (Str.ofString "races"), key := .str (Str.ofString "races") t5, val := .ref R }] 5
theorem InstAt.lift {g h : Heap} {L x C : Addr} {m : Str → Option Value} {ox : Obj} {od : Option Obj} (F : Fr g L h m) (I : InstAt g x ox C od) : InstAt h x ox C od := by
  refine Mine.byv fun P_ kP_ => ?_
  obtain ⟨a, b, c, e⟩ := I
  refine kP_ ?_
  clear kP_ P_
  refine ⟨F.keep _ _ a, b, c, ?_⟩
  cases q : ox.dict <;> cases od <;> simp only [q] at e ⊢
  exact F.keep _ _ e
theorem InstAt.keeps' {g h : Heap} {x C : Addr} {ox : Obj} {od : Option Obj} {fp : List Addr} (I : InstAt g x ox C od) (k : Keeps fp g h) (hx : x ∉ fp) (hd : ∀ a, ox.dict = some a → a ∉ fp) : InstAt h x ox C od := by
  refine Mine.byv fun P_ kP_ => ?_
  obtain ⟨a, b, c, e⟩ := I
  refine kP_ ?_
  clear kP_ P_
  refine ⟨k _ _ hx a, b, c, ?_⟩
  cases q : ox.dict with
  | none => cases od <;> simp only [q] at e ⊢
  | some y => cases od with
    | none => simp only [q] at e
    | some o => simp only [q] at e ⊢; exact k _ _ (hd y q) e
local macro_rules | `(tactic| k_inst) => `(tactic| (apply InstAt.lift <;> assumption))
noncomputable def clockOf (f : Int → Option Dat) (x : Int) : Dat := (f x).getD (clk [(x, 1)])
section
variable {p : Program} {loose : List Str} {mg mb : Str → Option Value} {w : World} {dp un : Nat} {fr : Option (List Env)} {gd : Option (List Code)} {h₀ v : Heap} {s : Shared} {Q : Value → Shared → Prop}
theorem clock_call (X : (hd.heap_1 w.params).In h₀) (T : TopRead p loose mg mb h₀) (H : Sub h₀ v) (V : Sub v s.heap) (hdp : dp + 2 < recursionLimit) (hun : un + 50 < cLine)
  {W d C Ln G P R : Addr} {t1 t2 t3 t4 t5 : Tok} (I : InstAt v W (instObj 227 d) 227 (some (watchD w t1 t2 t3 t4 t5 C Ln G P R))) (hWC : W ≠ C) (hdC : d ≠ C) (hoff : h₀.get? C = none)
  {x : Int} {t : Tok} {n : Nat} {f : Int → Option Dat} (D : DM PySem.Challenge.rw_on0014_01.prog w v C n f) (hn : n ≤ 1000)
  (ret : ∀ r v' h' tk', Post s.heap v v' h' [C] → DM PySem.Challenge.rw_on0014_01.prog w v' C (n + 1) (upd f x (clockOf f x)) → DatH v' r (clockOf f x) → Q r {s with heap := h', toks := tk'}) :
  wpAny (model PySem.Challenge.rw_on0014_01.prog w) (Ar dp fr gd un) (call (.ref 119) [.ref W, .int x t]) Q (fun _ _ => False) s := by
  revert X; k_fill; intro X
  refine wpAny_call ?_
  k_dflt (refine' into (f := 119) [C] [("self", .ref W), ("goroutine", .int x t)] X T H V ?o1 ?o2 ?k1 ?k2 ?k3 ?k4 ?k5 ?k6 ?k7 ?k8 ?k9 ?_; (case o1 => first | exact Mine.all1 hoff | simpa using hoff); (case o2 => first | exact Mine.all1 D.alive | simpa using D.alive); (case k1 => k_is); (case k2 => k_is); (case k3 => first | exact Nat.lt_of_le_of_lt (Nat.le_add_right _ _) hdp | lia); (case k4 => rfl); (case k5 => exact locs rfl); (case k6 => decide); (case k7 => rfl); (case k8 => rfl); (case k9 => rfl))
  intro g L h₁ fr' own A' e_ s1_ m0 Z F N X T
  have IG : InstAt g W (instObj 227 d) 227 (some (watchD w t1 t2 t3 t4 t5 C Ln G P R)) := InstAt.keeps' I (fun b o n e => Z.hk b o n (V b o e)) (by first | exact Mine.nin1 (hWC) | exact Mine.all1 (hWC) | simpa using hWC) (fun a e => Mine.dict_nin e (by first | exact Mine.nin1 (hdC) | exact Mine.all1 (hdC) | simpa using hdC))
  iterate 7 walk1
  cases hf : f x with
  | none =>
    refine DM.notIn_none D (Z.sub F N fun _ h => h) hf ?_
    iterate 20 walk1
    rename Fr g L _ _ => F1
    rename News g L _ (_ :: _ :: own) => N1
    refine Z.growK F1 N1 (fun p hp => .tail _ (.tail _ hp)) fun vs  Z1  k1  k2  k3 => ?_
    have hv : DatH vs _ (clk [(x, 1)]) := DatH.tuple (n := 0) (vs := [_]) (k3 _ (.head _)) (DatsH.cons (DatH.tuple (n := 0) (vs := [_, _]) (k3 _ (.tail _ (.head _))) (DatsH.cons (DatH.int _ x t) (DatsH.cons (DatH.int _ 1 _) (DatsH.nil _)))) (DatsH.nil _))
    refine (D.up k1).setItem k2 hv hn fun v' h5 P5 D5 => ?_
    refine Z1.backK F1 N1 P5 (by first | exact Mine.nin1 (Z.offg C (.head _)) | exact Mine.all1 (Z.offg C (.head _)) | simpa using Z.offg C (.head _)) (by first | exact Mine.nin1 ((D.up k1).alive) | exact Mine.all1 ((D.up k1).alive) | simpa using (D.up k1).alive) ?_
    intro own' mm_ Z5  F5  N5
    (try (refine Mine.wp_let ?_; intro sQ1_))
    (try clear F1); (try clear N1)
    iterate 11 walk1
    refine DM.tail D5 (Z5.sub F5 N5 fun _ h => h) (dd := clk [(x, 1)]) (by first | ((repeat' (first | exact nin_nil | exact all_nil | (refine nin_cons ?_ ?_) | (refine all_cons ?_ ?_) | assumption | exact Ne.symm (by assumption))); done) | simp [upd]) fun r hr => ?_
    k_steps
    (try k_steps)
    show Q r _
    have e : clockOf f x = clk [(x, 1)] := by simp [clockOf, hf]
    rw [← e] at D5 hr
    (try k_steps)
    exact ret r v' _ _ (Z5.post F5 N5) D5 hr
  | some c =>
    refine DM.notIn_some D (Z.sub F N fun _ h => h) hf ?_
    iterate 13 walk1
    refine DM.tail D (Z.sub F N fun _ h => h) hf fun r hr => ?_
    k_steps
    (try k_steps)
    show Q r _
    have e : clockOf f x = c := by simp [clockOf, hf]
    have e2 : upd f x c = f := funext fun y => by
      unfold upd
      by_cases q : y = x
      · rw [if_pos q, q, hf]
      · rw [if_neg q]
    rw [← e] at hr e2
    (try k_steps)
    exact ret r v _ _ (Z.post F N) (by rw [e2]; exact D.mono (Nat.le_succ n)) hr
end
noncomputable abbrev PG : Program := PySem.Challenge.rw_on0014_01.prog
/-- the clocks (or the gates): an int dict whose values are clocks -/
noncomputable def CM (w : World) (h : Heap) (d : Addr) (n : Nat) (cm : Int → Option (List (Int × Int))) : Prop := DM PG w h d n (fun x => (cm x).map clk)
noncomputable def cOf (cm : Int → Option (List (Int × Int))) (x : Int) : List (Int × Int) := (cm x).getD [(x, 1)]
theorem cOf_clk (cm : Int → Option (List (Int × Int))) (x : Int) : clockOf (fun x => (cm x).map clk) x = clk (cOf cm x) := by
  unfold clockOf cOf
  cases h : cm x <;> simp [h]
theorem upd_map (cm : Int → Option (List (Int × Int))) (x : Int) (c : List (Int × Int)) : upd (fun x => (cm x).map clk) x (clk c) = fun y => (upd cm x c y).map clk := by
  funext y
  unfold upd
  by_cases q : y = x
  · rw [if_pos q, if_pos q]; rfl
  · rw [if_neg q, if_neg q]
theorem upd_upd {α : Type} (f : Int → Option α) (x : Int) (a b : α) : upd (upd f x a) x b = upd f x b := by
  funext y
  unfold upd
  by_cases q : y = x
  · rw [if_pos q, if_pos q]
  · rw [if_neg q, if_neg q, if_neg q]
theorem upd_at {α : Type} (f : Int → Option α) (x : Int) (a : α) : upd f x a x = some a := by simp [upd]
section
variable {w : World} {h h' : Heap} {d : Addr} {n : Nat} {cm : Int → Option (List (Int × Int))}
theorem CM.alive (x : CM w h d n cm) : ∃ o, h.get? d = some o := DM.alive x
theorem CM.noTup (x : CM w h d n cm) : NoTup h [d] := DM.noTup x
theorem CM.keeps {fp : List Addr} (x : CM w h d n cm) (k : Keeps fp h h') (hd : d ∉ fp) (nt : NoTup h fp) : CM w h' d n cm := DM.keeps x k hd nt
theorem CM.up (x : CM w h d n cm) (k : Sub h h') : CM w h' d n cm := DM.up x k
theorem CM.mono {m : Nat} (x : CM w h d n cm) (hm : n ≤ m) : CM w h d m cm := DM.mono x hm
end
section
variable {p : Program} {loose : List Str} {mg mb : Str → Option Value} {w : World} {dp un : Nat} {fr : Option (List Env)} {gd : Option (List Code)} {h₀ v : Heap} {s : Shared} {Q : Value → Shared → Prop}
theorem told_call (X : (hd.heap_1 w.params).In h₀) (T : TopRead p loose mg mb h₀) (H : Sub h₀ v) (V : Sub v s.heap) (hdp : dp + 3 < recursionLimit) (hun : un + 70 < cLine)
  {W d C Ln G P R : Addr} {t1 t2 t3 t4 t5 : Tok} (I : InstAt v W (instObj 227 d) 227 (some (watchD w t1 t2 t3 t4 t5 C Ln G P R))) (hWC : W ≠ C) (hdC : d ≠ C) (hoff : h₀.get? C = none)
  {x : Int} {t : Tok} {n : Nat} {cm : Int → Option (List (Int × Int))} (D : CM w v C n cm) (hn : n + 1 ≤ 1000) (hsz : (cOf cm x).length ≤ 900)
  (ret : ∀ r c v' h' tk', Post s.heap v v' h' [C] → CM w v' C (n + 2) (upd cm x c) → DatH v' r (clk (cOf cm x)) → c.Perm (joinL (cOf cm x) [(x, cnt (cOf cm x) x + 1)]) → Q r {s with heap := h', toks := tk'}) :
  wpAny (model PySem.Challenge.rw_on0014_01.prog w) (Ar dp fr gd un) (call (.ref 133) [.ref W, .int x t]) Q (fun _ _ => False) s := by
  have X0 := X
  have T0 := T
  revert X; k_fill; intro X
  refine wpAny_call ?_
  k_dflt (refine' into (f := 133) [C] [("self", .ref W), ("goroutine", .int x t)] X T H V ?o1 ?o2 ?k1 ?k2 ?k3 ?k4 ?k5 ?k6 ?k7 ?k8 ?k9 ?_; (case o1 => first | exact Mine.all1 hoff | simpa using hoff); (case o2 => first | exact Mine.all1 D.alive | simpa using D.alive); (case k1 => k_is); (case k2 => k_is); (case k3 => first | exact Nat.lt_of_le_of_lt (Nat.le_add_right _ _) hdp | lia); (case k4 => rfl); (case k5 => exact locs rfl); (case k6 => decide); (case k7 => rfl); (case k8 => rfl); (case k9 => rfl))
  intro g L h₁ fr' own A' e_ s1_ m0 Z F N Xg Tg
  have IG : InstAt g W (instObj 227 d) 227 (some (watchD w t1 t2 t3 t4 t5 C Ln G P R)) := InstAt.keeps' I (fun b o n e => Z.hk b o n (V b o e)) (by first | exact Mine.nin1 (hWC) | exact Mine.all1 (hWC) | simpa using hWC) (fun a e => Mine.dict_nin e (by first | exact Mine.nin1 (hdC) | exact Mine.all1 (hdC) | simpa using hdC))
  iterate 10 walk1
  refine clock_call X0 T0 Z.H (Z.sub F N fun _ h => h) (Mine.room hdp) (Mine.room hun) I hWC hdC hoff D (by (first | exact ar65 hn | lia)) fun r v1 h1 tk1 P1 D1 hr => ?_
  refine Z.backK F N P1 (by first | exact Mine.nin1 (Z.offg C (.head _)) | exact Mine.all1 (Z.offg C (.head _)) | simpa using Z.offg C (.head _)) (by first | exact Mine.nin1 (D.alive) | exact Mine.all1 (D.alive) | simpa using D.alive) ?_
  intro own1 mm_ Z1  F1  N1
  (try (refine Mine.wp_let ?_; intro sQ15_))
  (try clear F); (try clear N)
  rw [cOf_clk] at D1 hr
  iterate 13 walk1
  rename Fr g L _ _ => F2
  rename News g L _ own1 => N2
  refine ticked_call Xg Tg (Fr.toSub F2) (Mine.room hdp) (Mine.room hun) (hr.up (Z1.sub F2 N2 fun _ h => h)) hsz fun r2 c h2 tk2 k2 hd2 hp2 => ?_
  refine Z1.pureK F2 N2 k2 ?_
  intro v2 own2 mm_ Z2  F3  N3  kv2  kh2  hall  _
  (try (refine Mine.wp_let ?_; intro sQ16_))
  replace hd2 := hall _ _ hd2
  (try clear F1); (try clear N1); (try clear F2); (try clear N2)
  iterate 4 walk1
  refine DM.setItem (D1.up kv2) kh2 hd2 hn fun v3 h3 P3 D3 => ?_
  refine Z2.backK F3 N3 P3 (by first | exact Mine.nin1 (Z.offg C (.head _)) | exact Mine.all1 (Z.offg C (.head _)) | simpa using Z.offg C (.head _)) (by first | exact Mine.nin1 ((D1.up kv2).alive) | exact Mine.all1 ((D1.up kv2).alive) | simpa using (D1.up kv2).alive) ?_
  intro own3 mm_ Z3  F4  N4
  (try (refine Mine.wp_let ?_; intro sQ17_))
  k_steps
  (try k_steps)
  show Q r _
  rw [upd_upd, upd_map] at D3
  (try k_steps)
  exact ret r c v3 _ _ (Z3.post F4 N4) D3 ((hr.up kv2).keeps P3.keeps (D1.up kv2).noTup) hp2
theorem learn_call (X : (hd.heap_1 w.params).In h₀) (T : TopRead p loose mg mb h₀) (H : Sub h₀ v) (V : Sub v s.heap) (hdp : dp + 3 < recursionLimit) (hun : un + 70 < cLine)
  {W d C Ln G P R : Addr} {t1 t2 t3 t4 t5 : Tok} (I : InstAt v W (instObj 227 d) 227 (some (watchD w t1 t2 t3 t4 t5 C Ln G P R))) (hWC : W ≠ C) (hdC : d ≠ C) (hoff : h₀.get? C = none)
  {x : Int} {t : Tok} {n : Nat} {cm : Int → Option (List (Int × Int))} {u : Value} {b : List (Int × Int)} (hb : DatH v u (clk b)) (D : CM w v C n cm) (hn : n + 1 ≤ 1000) (hsz : (cOf cm x).length + b.length ≤ 900)
  (ret : ∀ c v' h' tk', Post s.heap v v' h' [C] → CM w v' C (n + 2) (upd cm x c) → c.Perm (joinL (cOf cm x) b) → Q .none {s with heap := h', toks := tk'}) :
  wpAny (model PySem.Challenge.rw_on0014_01.prog w) (Ar dp fr gd un) (call (.ref 126) [.ref W, .int x t, u]) Q (fun _ _ => False) s := by
  have X0 := X
  have T0 := T
  revert X; k_fill; intro X
  refine wpAny_call ?_
  k_dflt (refine' into (f := 126) [C] [("self", .ref W), ("goroutine", .int x t), ("other", u)] X T H V ?o1 ?o2 ?k1 ?k2 ?k3 ?k4 ?k5 ?k6 ?k7 ?k8 ?k9 ?_; (case o1 => first | exact Mine.all1 hoff | simpa using hoff); (case o2 => first | exact Mine.all1 D.alive | simpa using D.alive); (case k1 => k_is); (case k2 => k_is); (case k3 => first | exact Nat.lt_of_le_of_lt (Nat.le_add_right _ _) hdp | lia); (case k4 => rfl); (case k5 => exact locs rfl); (case k6 => decide); (case k7 => rfl); (case k8 => rfl); (case k9 => rfl))
  intro g L h₁ fr' own A' e_ s1_ m0 Z F N Xg Tg
  have IG : InstAt g W (instObj 227 d) 227 (some (watchD w t1 t2 t3 t4 t5 C Ln G P R)) := InstAt.keeps' I (fun b o n e => Z.hk b o n (V b o e)) (by first | exact Mine.nin1 (hWC) | exact Mine.all1 (hWC) | simpa using hWC) (fun a e => Mine.dict_nin e (by first | exact Mine.nin1 (hdC) | exact Mine.all1 (hdC) | simpa using hdC))
  iterate 14 walk1
  refine clock_call X0 T0 Z.H (Z.sub F N fun _ h => h) (Mine.room hdp) (Mine.room hun) I hWC hdC hoff D (by (first | exact ar65 hn | lia)) fun r v1 h1 tk1 P1 D1 hr => ?_
  refine Z.backK F N P1 (by first | exact Mine.nin1 (Z.offg C (.head _)) | exact Mine.all1 (Z.offg C (.head _)) | simpa using Z.offg C (.head _)) (by first | exact Mine.nin1 (D.alive) | exact Mine.all1 (D.alive) | simpa using D.alive) ?_
  intro own1 mm_ Z1  F1  N1
  (try (refine Mine.wp_let ?_; intro sQ18_))
  replace hb := hb.keeps P1.keeps D.noTup
  (try clear F); (try clear N)
  rw [cOf_clk] at D1 hr
  iterate 4 walk1
  rename Fr g L _ _ => F2
  rename News g L _ own1 => N2
  refine joined_call Xg Tg (Fr.toSub F2) (Mine.room hdp) (Mine.room hun) (hr.up (Z1.sub F2 N2 fun _ h => h)) (hb.up (Z1.sub F2 N2 fun _ h => h)) (by (first | exact ar281 hsz | lia)) fun r2 c h2 tk2 k2 hd2 hp2 => ?_
  refine Z1.pureK F2 N2 k2 ?_
  intro v2 own2 mm_ Z2  F3  N3  kv2  kh2  hall  _
  (try (refine Mine.wp_let ?_; intro sQ19_))
  replace hd2 := hall _ _ hd2
  (try clear F1); (try clear N1); (try clear F2); (try clear N2)
  iterate 4 walk1
  refine DM.setItem (D1.up kv2) kh2 hd2 hn fun v3 h3 P3 D3 => ?_
  refine Z2.backK F3 N3 P3 (by first | exact Mine.nin1 (Z.offg C (.head _)) | exact Mine.all1 (Z.offg C (.head _)) | simpa using Z.offg C (.head _)) (by first | exact Mine.nin1 ((D1.up kv2).alive) | exact Mine.all1 ((D1.up kv2).alive) | simpa using (D1.up kv2).alive) ?_
  intro own3 mm_ Z3  F4  N4
  (try (refine Mine.wp_let ?_; intro sQ20_))
  k_steps
  (try k_steps)
  show Q .none _
  rw [upd_upd, upd_map] at D3
  (try k_steps)
  exact ret c v3 _ _ (Z3.post F4 N4) D3 hp2
theorem instPost {v v' s h' : Heap} {fp : List Addr} {x C : Addr} {ox : Obj} {od : Option Obj} (I : InstAt v x ox C od) (P : Post s v v' h' fp) (hx : x ∉ fp) (hd : ∀ a, ox.dict = some a → a ∉ fp) : InstAt v' x ox C od := InstAt.keeps' I P.keeps hx hd
theorem go_call (X : (hd.heap_1 w.params).In h₀) (T : TopRead p loose mg mb h₀) (H : Sub h₀ v) (V : Sub v s.heap) (hdp : dp + 4 < recursionLimit) (hun : un + 80 < cLine)
  {W d C Ln G P R : Addr} {t1 t2 t3 t4 t5 : Tok} (I : InstAt v W (instObj 227 d) 227 (some (watchD w t1 t2 t3 t4 t5 C Ln G P R))) (hWC : W ≠ C) (hdC : d ≠ C) (hoff : h₀.get? C = none)
  {x y : Int} {t ty : Tok} {n : Nat} {cm : Int → Option (List (Int × Int))} (D : CM w v C n cm) (hn : n + 3 ≤ 1000) (hsz : ∀ z c, cm z = some c → c.length ≤ 100)
  (ret : ∀ c1 c2 v' h' tk', Post s.heap v v' h' [C] → CM w v' C (n + 4) (upd (upd cm x c1) y c2) → c1.Perm (joinL (cOf cm x) [(x, cnt (cOf cm x) x + 1)]) → c2.Perm (joinL (cOf (upd cm x c1) y) (cOf cm x)) → Q .none {s with heap := h', toks := tk'}) :
  wpAny (model PySem.Challenge.rw_on0014_01.prog w) (Ar dp fr gd un) (call (.ref 140) [.ref W, .int x t, .int y ty]) Q (fun _ _ => False) s := by
  have X0 := X
  have T0 := T
  revert X; k_fill; intro X
  refine wpAny_call ?_
  k_dflt (refine' into (f := 140) [C] [("self", .ref W), ("goroutine", .int x t), ("child", .int y ty)] X T H V ?o1 ?o2 ?k1 ?k2 ?k3 ?k4 ?k5 ?k6 ?k7 ?k8 ?k9 ?_; (case o1 => first | exact Mine.all1 hoff | simpa using hoff); (case o2 => first | exact Mine.all1 D.alive | simpa using D.alive); (case k1 => k_is); (case k2 => k_is); (case k3 => first | exact Nat.lt_of_le_of_lt (Nat.le_add_right _ _) hdp | lia); (case k4 => rfl); (case k5 => exact locs rfl); (case k6 => decide); (case k7 => rfl); (case k8 => rfl); (case k9 => rfl))
  intro g L h₁ fr' own A' e_ s1_ m0 Z F N Xg Tg
  have IG : InstAt g W (instObj 227 d) 227 (some (watchD w t1 t2 t3 t4 t5 C Ln G P R)) := InstAt.keeps' I (fun b o n e => Z.hk b o n (V b o e)) (by first | exact Mine.nin1 (hWC) | exact Mine.all1 (hWC) | simpa using hWC) (fun a e => Mine.dict_nin e (by first | exact Mine.nin1 (hdC) | exact Mine.all1 (hdC) | simpa using hdC))
  have hl : ∀ z, (cOf cm z).length ≤ 100 := fun z => by
    unfold cOf
    cases q : cm z with
    | none => simp
    | some c => exact hsz z c q
  iterate 17 walk1
  refine told_call X0 T0 Z.H (Z.sub F N fun _ h => h) (Mine.room hdp) (Mine.room hun) I hWC hdC hoff D (by (first | exact ar218 hn | lia)) (by have := hl x; (first | exact ar226 this | lia)) fun r c1 v1 h1 tk1 P1 D1 hr hp1 => ?_
  refine Z.backK F N P1 (by first | exact Mine.nin1 (Z.offg C (.head _)) | exact Mine.all1 (Z.offg C (.head _)) | simpa using Z.offg C (.head _)) (by first | exact Mine.nin1 (D.alive) | exact Mine.all1 (D.alive) | simpa using D.alive) ?_
  intro own1 mm_ Z1  F1  N1
  (try (refine Mine.wp_let ?_; intro sQ21_))
  (try clear F); (try clear N)
  iterate 2 walk1
  have hlen : (cOf (upd cm x c1) y).length + (cOf cm x).length ≤ 900 := by
    have e1 := hl x
    have e2 := hl y
    have e3 := hp1.length_eq
    have e4 := joinStep_length [(x, cnt (cOf cm x) x + 1)] ((cOf cm x).foldl (fun acc x => storeI acc x.1 x.2) [])
    have e5 := ofPairs_length (cOf cm x) []
    simp only [List.length_cons, List.length_nil, Nat.zero_add] at e4 e5
    unfold joinL at e3
    by_cases q : y = x
    · subst q
      have : cOf (upd cm y c1) y = c1 := by simp [cOf, upd]
      rw [this]; lia
    · have : cOf (upd cm x c1) y = cOf cm y := by simp [cOf, upd, q]
      rw [this]; (first | exact ar304 e1 e2 | lia)
  refine learn_call X0 T0 Z1.H (Z1.sub F1 N1 fun _ h => h) (Mine.room hdp) (Mine.room hun) (instPost I P1 (by first | exact Mine.nin1 (hWC) | exact Mine.all1 (hWC) | simpa using hWC) (fun a e => Mine.dict_nin e (by first | exact Mine.nin1 (hdC) | exact Mine.all1 (hdC) | simpa using hdC))) hWC hdC hoff hr D1 (by (first | exact ar219 hn | lia)) hlen fun c2 v2 h2 tk2 P2 D2 hp2 => ?_
  refine Z1.backK F1 N1 P2 (by first | exact Mine.nin1 (Z.offg C (.head _)) | exact Mine.all1 (Z.offg C (.head _)) | simpa using Z.offg C (.head _)) (by first | exact Mine.nin1 (D1.alive) | exact Mine.all1 (D1.alive) | simpa using D1.alive) ?_
  intro own2 mm_ Z2  F2  N2
  (try (refine Mine.wp_let ?_; intro sQ22_))
  (try clear F1); (try clear N1)
  k_steps
  (try k_steps)
  show Q .none _
  (try k_steps)
  exact ret c1 c2 v2 _ _ (Z2.post F2 N2) D2 hp1 hp2
end
theorem joinL_len (a b : List (Int × Int)) : (joinL a b).length ≤ a.length + b.length := by
  have e4 := joinStep_length b (a.foldl (fun acc x => storeI acc x.1 x.2) [])
  have e5 := ofPairs_length a []
  simp only [List.length_nil, Nat.zero_add] at e5
  unfold joinL
  (first | exact ar420 e4 e5 | lia)
noncomputable def gOf (gm : Int → Option (List (Int × Int))) (x : Int) : List (Int × Int) := (gm x).getD []
theorem gOf_clk (gm : Int → Option (List (Int × Int))) (x : Int) : ((fun x => (gm x).map clk) x).getD (clk []) = clk (gOf gm x) := by
  unfold gOf
  cases h : gm x <;> simp [h]
section
variable {p : Program} {loose : List Str} {mg mb : Str → Option Value} {w : World} {dp un : Nat} {fr : Option (List Env)} {gd : Option (List Code)} {h₀ v : Heap} {s : Shared} {Q : Value → Shared → Prop}
theorem enter_call (X : (hd.heap_1 w.params).In h₀) (T : TopRead p loose mg mb h₀) (H : Sub h₀ v) (V : Sub v s.heap) (hdp : dp + 4 < recursionLimit) (hun : un + 80 < cLine)
  {W d C Ln G P R : Addr} {t1 t2 t3 t4 t5 : Tok} (I : InstAt v W (instObj 227 d) 227 (some (watchD w t1 t2 t3 t4 t5 C Ln G P R))) (hWC : W ≠ C) (hdC : d ≠ C) (hoff : h₀.get? C = none)
  {x z : Int} {t tz : Tok} {n m : Nat} {cm gm : Int → Option (List (Int × Int))} (D : CM w v C n cm) (DG : CM w v G m gm) (hCG : G ≠ C) (hn : n + 1 ≤ 1000) (hsz : (cOf cm x).length + (gOf gm z).length ≤ 900)
  (ret : ∀ c v' h' tk', Post s.heap v v' h' [C] → CM w v' C (n + 2) (upd cm x c) → c.Perm (joinL (cOf cm x) (gOf gm z)) → Q .none {s with heap := h', toks := tk'}) :
  wpAny (model PySem.Challenge.rw_on0014_01.prog w) (Ar dp fr gd un) (call (.ref 196) [.ref W, .int x t, .int z tz]) Q (fun _ _ => False) s := by
  have X0 := X
  have T0 := T
  revert X; k_fill; intro X
  refine wpAny_call ?_
  k_dflt (refine' into (f := 196) [C] [("self", .ref W), ("goroutine", .int x t), ("gate", .int z tz)] X T H V ?o1 ?o2 ?k1 ?k2 ?k3 ?k4 ?k5 ?k6 ?k7 ?k8 ?k9 ?_; (case o1 => first | exact Mine.all1 hoff | simpa using hoff); (case o2 => first | exact Mine.all1 D.alive | simpa using D.alive); (case k1 => k_is); (case k2 => k_is); (case k3 => first | exact Nat.lt_of_le_of_lt (Nat.le_add_right _ _) hdp | lia); (case k4 => rfl); (case k5 => exact locs rfl); (case k6 => decide); (case k7 => rfl); (case k8 => rfl); (case k9 => rfl))
  intro g L h₁ fr' own A' e_ s1_ m0 Z F N Xg Tg
  have IG : InstAt g W (instObj 227 d) 227 (some (watchD w t1 t2 t3 t4 t5 C Ln G P R)) := InstAt.keeps' I (fun b o n e => Z.hk b o n (V b o e)) (by first | exact Mine.nin1 (hWC) | exact Mine.all1 (hWC) | simpa using hWC) (fun a e => Mine.dict_nin e (by first | exact Mine.nin1 (hdC) | exact Mine.all1 (hdC) | simpa using hdC))
  iterate 13 walk1
  rename Fr g L _ _ => F1
  rename News g L _ own => N1
  refine DM.method DG (Z.sub F1 N1 fun _ h => h) PySem.F.slot_dict_get PySem.F.type_dict_get ?_
  iterate 8 walk1
  rename Fr g L _ _ => F2
  rename News g L _ (_ :: own) => N2
  refine Z.growK F2 N2 (fun p hp => .tail _ hp) fun vs  Z1  k1  k2  k3 => ?_
  have hv : DatH vs _ (clk []) := DatH.tuple (n := 0) (vs := []) (k3 _ (.head _)) (DatsH.nil _)
  refine DM.get2 (DG.up k1) k2 hv fun u hu => ?_
  rw [gOf_clk] at hu
  iterate 2 walk1
  refine learn_call X0 T0 Z1.H k2 (Mine.room hdp) (Mine.room hun) (InstAt.keeps' I (k1.keeps []) (by first | exact nin_nil | exact all_nil | ((repeat (first | exact .head _ | refine .tail _ ?_)); done) | simp) (by first | exact nin_nil | exact all_nil | ((repeat (first | exact .head _ | refine .tail _ ?_)); done) | simp)) hWC hdC hoff hu (D.up k1) (by (first | exact ar64 hn | lia)) hsz fun c v2 h2 tk2 P2 D2 hp2 => ?_
  refine Z1.backK F2 N2 P2 (by first | exact Mine.nin1 (Z.offg C (.head _)) | exact Mine.all1 (Z.offg C (.head _)) | simpa using Z.offg C (.head _)) (by first | exact Mine.nin1 ((D.up k1).alive) | exact Mine.all1 ((D.up k1).alive) | simpa using (D.up k1).alive) ?_
  intro own2 mm_ Z2  F3  N3
  (try (refine Mine.wp_let ?_; intro sQ45_))
  (try clear F1); (try clear N1); (try clear F2); (try clear N2); (try clear F); (try clear N)
  k_steps
  (try k_steps)
  show Q .none _
  (try k_steps)
  refine ret c v2 _ _ (Z2.post F3 N3) D2 hp2
theorem leave_call (X : (hd.heap_1 w.params).In h₀) (T : TopRead p loose mg mb h₀) (H : Sub h₀ v) (V : Sub v s.heap) (hdp : dp + 4 < recursionLimit) (hun : un + 80 < cLine)
  {W d C Ln G P R : Addr} {t1 t2 t3 t4 t5 : Tok} (I : InstAt v W (instObj 227 d) 227 (some (watchD w t1 t2 t3 t4 t5 C Ln G P R))) (hWC : W ≠ C) (hdC : d ≠ C) (hWG : W ≠ G) (hdG : d ≠ G) (hoff : h₀.get? C = none) (hoffG : h₀.get? G = none)
  {x z : Int} {t tz : Tok} {n m : Nat} {cm gm : Int → Option (List (Int × Int))} (D : CM w v C n cm) (DG : CM w v G m gm) (hCG : G ≠ C) (hn : n + 1 ≤ 1000) (hm : m ≤ 1000) (hsz : (cOf cm x).length + (gOf gm z).length ≤ 900)
  (ret : ∀ c gc v' h' tk', Post s.heap v v' h' [C, G] → CM w v' C (n + 2) (upd cm x c) → CM w v' G (m + 1) (upd gm z gc) → c.Perm (joinL (cOf cm x) [(x, cnt (cOf cm x) x + 1)]) → gc.Perm (joinL (gOf gm z) (cOf cm x)) → Q .none {s with heap := h', toks := tk'}) :
  wpAny (model PySem.Challenge.rw_on0014_01.prog w) (Ar dp fr gd un) (call (.ref 189) [.ref W, .int x t, .int z tz]) Q (fun _ _ => False) s := by
  have X0 := X
  have T0 := T
  revert X; k_fill; intro X
  refine wpAny_call ?_
  k_dflt (refine' into (f := 189) [C, G] [("self", .ref W), ("goroutine", .int x t), ("gate", .int z tz)] X T H V ?o1 ?o2 ?k1 ?k2 ?k3 ?k4 ?k5 ?k6 ?k7 ?k8 ?k9 ?_; (case o1 => first | (iterate 2 (refine Mine.all_cons ?_ ?_; first | exact hoff | exact hoffG); exact Mine.all_nil) | simp [hoff, hoffG]); (case o2 => first | (iterate 2 (refine Mine.all_cons ?_ ?_; first | exact D.alive | exact DG.alive); exact Mine.all_nil) | simp [D.alive, DG.alive]); (case k1 => k_is); (case k2 => k_is); (case k3 => first | exact Nat.lt_of_le_of_lt (Nat.le_add_right _ _) hdp | lia); (case k4 => rfl); (case k5 => exact locs rfl); (case k6 => decide); (case k7 => rfl); (case k8 => rfl); (case k9 => rfl))
  intro g L h₁ fr' own A' e_ s1_ m0 Z F N Xg Tg
  have IG : InstAt g W (instObj 227 d) 227 (some (watchD w t1 t2 t3 t4 t5 C Ln G P R)) := InstAt.keeps' I (fun b o n e => Z.hk b o n (V b o e)) (by first | ((repeat' (first | exact nin_nil | exact all_nil | (refine nin_cons ?_ ?_) | (refine all_cons ?_ ?_) | assumption | exact Ne.symm (by assumption))); done) | simp [hWC, hWG]) (fun a e => Mine.dict_nin e (by first | ((repeat' (first | exact nin_nil | exact all_nil | (refine nin_cons ?_ ?_) | (refine all_cons ?_ ?_) | assumption | exact Ne.symm (by assumption))); done) | simp [hdC, hdG]))
  iterate 10 walk1
  rename Fr g L _ _ => F1
  rename News g L _ own => N1
  refine DM.method DG (Z.sub F1 N1 fun _ h => h) PySem.F.slot_dict_get PySem.F.type_dict_get ?_
  iterate 8 walk1
  rename Fr g L _ _ => F2
  rename News g L _ (_ :: own) => N2
  refine Z.growK F2 N2 (fun p hp => .tail _ hp) fun vs  Z1  k1  k2  k3 => ?_
  have hv : DatH vs _ (clk []) := DatH.tuple (n := 0) (vs := []) (k3 _ (.head _)) (DatsH.nil _)
  refine DM.get2 (DG.up k1) k2 hv fun u hu => ?_
  rw [gOf_clk] at hu
  iterate 9 walk1
  have I1 : InstAt vs W (instObj 227 d) 227 (some (watchD w t1 t2 t3 t4 t5 C Ln G P R)) := InstAt.keeps' I (k1.keeps []) (by first | exact nin_nil | exact all_nil | ((repeat (first | exact .head _ | refine .tail _ ?_)); done) | simp) (by first | exact nin_nil | exact all_nil | ((repeat (first | exact .head _ | refine .tail _ ?_)); done) | simp)
  refine told_call X0 T0 Z1.H k2 (Mine.room hdp) (Mine.room hun) I1 hWC hdC hoff (D.up k1) (by (first | exact ar64 hn | lia)) (by (first | exact ar282 hsz | lia)) fun r c v2 h2 tk2 P2 D2 hr hp2 => ?_
  refine Z1.backK F2 N2 P2 (by first | exact Mine.nin1 (Z.offg C (.head _)) | exact Mine.all1 (Z.offg C (.head _)) | simpa using Z.offg C (.head _)) (by first | exact Mine.nin1 ((D.up k1).alive) | exact Mine.all1 ((D.up k1).alive) | simpa using (D.up k1).alive) ?_
  intro own2 mm_ Z2  F3  N3
  (try (refine Mine.wp_let ?_; intro sQ46_))
  have hu2 := hu.keeps P2.keeps (D.up k1).noTup
  have DG2 := (DG.up k1).keeps P2.keeps (by first | exact Mine.nin1 (hCG) | exact Mine.all1 (hCG) | simpa using hCG) (D.up k1).noTup
  (try clear F1); (try clear N1); (try clear F2); (try clear N2); (try clear F); (try clear N)
  iterate 2 walk1
  rename Fr g L _ _ => F4
  rename News g L _ own2 => N4
  refine joined_call Xg Tg (Fr.toSub F4) (Mine.room hdp) (Mine.room hun) (hu2.up (Z2.sub F4 N4 fun _ h => h)) (hr.up (Z2.sub F4 N4 fun _ h => h)) (by (first | exact ar283 hsz | lia)) fun r3 gc h3 tk3 k3' hd3 hp3 => ?_
  refine Z2.pureK F4 N4 k3' ?_
  intro v3 own3 mm_ Z3  F5  N5  kv3  kh3  hall  _
  (try (refine Mine.wp_let ?_; intro sQ47_))
  replace hd3 := hall _ _ hd3
  (try clear F3); (try clear N3); (try clear F4); (try clear N4)
  iterate 4 walk1
  refine DM.setItem (DG2.up kv3) kh3 hd3 hm fun v4 h4 P4 D4 => ?_
  refine Z3.backK F5 N5 P4 (by first | exact Mine.nin1 (Z.offg G (by first | exact nin_nil | exact all_nil | ((repeat (first | exact .head _ | refine .tail _ ?_)); done) | simp)) | exact Mine.all1 (Z.offg G (by first | exact nin_nil | exact all_nil | ((repeat (first | exact .head _ | refine .tail _ ?_)); done) | simp)) | simpa using Z.offg G (by first | exact nin_nil | exact all_nil | ((repeat (first | exact .head _ | refine .tail _ ?_)); done) | simp)) (by first | exact Mine.nin1 ((DG2.up kv3).alive) | exact Mine.all1 ((DG2.up kv3).alive) | simpa using (DG2.up kv3).alive) ?_
  intro own4 mm_ Z4  F6  N6
  (try (refine Mine.wp_let ?_; intro sQ48_))
  k_steps
  (try k_steps)
  show Q .none _
  rw [upd_map] at D4
  (try k_steps)
  exact ret c gc v4 _ _ (Z4.post F6 N6) ((D2.up kv3).keeps P4.keeps (by first | exact Mine.nin1 (Ne.symm hCG) | exact Mine.all1 (Ne.symm hCG) | simpa using Ne.symm hCG) (DG2.up kv3).noTup) D4 hp2 hp3
end
noncomputable abbrev lineD (w : World) (t1 t2 t3 t4 : Tok) (room : Value) (S Rv e : Addr) : Obj :=
  dictOf [{ hash := PyData.keyHash w.params (Str.ofString "room"), key := .str (Str.ofString "room") t1, val := room }, { hash := PyData.keyHash w.params (Str.ofString "sent"), key := .str (Str.ofString "sent") t2, val := .ref S },
    { hash := PyData.keyHash w.params (Str.ofString "received"), key := .str (Str.ofString "received") t3, val := .ref Rv }, { hash := PyData.keyHash w.params (Str.ofString "end"), key := .str (Str.ofString "end") t4, val := .ref e }] 4
noncomputable abbrev placeD (w : World) (t1 t2 : Tok) (Rd Wr : Addr) : Obj :=
  dictOf [{ hash := PyData.keyHash w.params (Str.ofString "reads"), key := .str (Str.ofString "reads") t1, val := .ref Rd }, { hash := PyData.keyHash w.params (Str.ofString "writes"), key := .str (Str.ofString "writes") t2, val := .ref Wr }] 2
theorem nodup4 {x dx a b : Nat} (h1 : dx < x) (h2 : x < a ∧ dx < a) (h3 : a < b ∧ x < b ∧ dx < b) : [x, dx, a, b].Nodup := by
  simp only [List.nodup_cons, List.mem_cons, List.not_mem_nil, or_false, not_or, not_false_eq_true, List.nodup_nil, and_true]
  exact ⟨⟨Nat.ne_of_gt h1, Nat.ne_of_lt h2.1, Nat.ne_of_lt h3.2.1⟩, ⟨Nat.ne_of_lt h2.2, Nat.ne_of_lt h3.2.2⟩, Nat.ne_of_lt h3.1⟩
theorem nodup7 {x dx C Ln G P R : Nat} (h1 : dx < x) (h2 : x < C ∧ dx < C) (h3 : C < Ln ∧ x < Ln ∧ dx < Ln) (h4 : Ln < G ∧ C < G ∧ x < G ∧ dx < G) (h5 : G < P ∧ Ln < P ∧ C < P ∧ x < P ∧ dx < P) (h6 : P < R ∧ G < R ∧ Ln < R ∧ C < R ∧ x < R ∧ dx < R) : [x, dx, C, Ln, G, P, R].Nodup := by
  simp only [List.nodup_cons, List.mem_cons, List.not_mem_nil, or_false, not_or, not_false_eq_true, List.nodup_nil, and_true]
  exact ⟨⟨Nat.ne_of_gt h1, Nat.ne_of_lt h2.1, Nat.ne_of_lt h3.2.1, Nat.ne_of_lt h4.2.2.1, Nat.ne_of_lt h5.2.2.2.1, Nat.ne_of_lt h6.2.2.2.2.1⟩, ⟨Nat.ne_of_lt h2.2, Nat.ne_of_lt h3.2.2, Nat.ne_of_lt h4.2.2.2, Nat.ne_of_lt h5.2.2.2.2, Nat.ne_of_lt h6.2.2.2.2.2⟩, ⟨Nat.ne_of_lt h3.1, Nat.ne_of_lt h4.2.1, Nat.ne_of_lt h5.2.2.1, Nat.ne_of_lt h6.2.2.2.1⟩, ⟨Nat.ne_of_lt h4.1, Nat.ne_of_lt h5.2.1, Nat.ne_of_lt h6.2.2.1⟩, ⟨Nat.ne_of_lt h5.1, Nat.ne_of_lt h6.2.1⟩, Nat.ne_of_lt h6.1⟩
section
variable {prog : Program} {w : World} {A : Around} {K : Frag} {C : Addr} {s : Shared} {R : Result → Shared → Prop}
theorem make_H {rest : List Value} {kw : List (Str × Value)} {fI : Addr} (X : K.In s.heap) (hm : makesIn K C = true)
    (hi : findIn K (.ref C) "__init__" = some (some (.ref fI))) (hf : typeIn K (.ref fI) = some (.type "function"))
    (h : codeAny (model prog w) (A.under (.builtin "type.__call__" ⟨.ref C :: rest, kw⟩)) (.call (.ref fI) ⟨.ref (s.heap.objs.size + 1) :: rest, kw⟩) (InitBack (s.heap.objs.size + 1) R) { s with heap := (s.heap.push emptyDict).push (instObj C s.heap.objs.size) }) :
    codeAny (model prog w) A (.call (.ref C) ⟨rest, kw⟩) R s := by
  refine Mine.byv fun P_ kP_ => ?_
  obtain ⟨hh, g, d, t, os⟩ := s
  refine kP_ ?_
  clear kP_ P_
  exact make_core (makes_of X hm) (looks_findIn X hi) (fun self => bind_fn X self hf) (.inl rfl) h
end
theorem sub_inner {h h2 g : Heap} {x dx : Addr} {o1 o2 : Obj} (k : Sub h h2) (hx : h.get? x = none) (hd : h.get? dx = none) (Hk : Keeps ([(x, o1), (dx, o2)].map (·.1)) h2 g) : Sub h g := fun b o e => by
  refine Hk b o ?_ (k b o e)
  simp only [List.map_cons, List.map_nil, List.mem_cons, List.not_mem_nil, or_false, not_or]
  refine ⟨fun q => ?_, fun q => ?_⟩ <;> subst q
  · rw [hx] at e; cases e
  · rw [hd] at e; cases e
theorem none_of {h g : Heap} {a : Addr} (k : Sub h g) (hg : g.get? a = none) : h.get? a = none := by
  cases q : h.get? a with
  | none => rfl
  | some o => rw [k _ _ q] at hg; cases hg
section
variable {p : Program} {loose : List Str} {mg mb : Str → Option Value} {w : World} {dp un : Nat} {fr : Option (List Env)} {gd : Option (List Code)} {h₀ v : Heap} {s : Shared} {Q : Value → Shared → Prop}
theorem line_new (X : (hd.heap_1 w.params).In h₀) (T : TopRead p loose mg mb h₀) (H : Sub h₀ s.heap) (hdp : dp + 4 < recursionLimit) (hun : un + 20 < cLine)
  {r : Int} {t : Tok}
  (ret : ∀ x dx S Rv e t1 t2 t3 t4 h' tk', Sub s.heap h' → (∀ a ∈ [x, dx, S, Rv], s.heap.get? a = none) → [x, dx, S, Rv].Nodup → h'.get? x = some (instObj 73 dx) → h'.get? dx = some (lineD w t1 t2 t3 t4 (.int r t) S Rv e) → h'.get? S = some (PySem.W.listOf #[] 0) → h'.get? Rv = some (PySem.W.listOf #[] 0) → Q (.ref x) { s with heap := h', toks := tk' }) :
  wpAny (model PySem.Challenge.rw_on0014_01.prog w) (Ar dp fr gd un) (call (.ref 73) [.int r t]) Q (fun _ _ => False) s := by
  revert X; k_fill; intro X
  refine wpAny_call ?_
  k_dflt (refine' make_H (K := hd.heap_1 w.params) (fI := 70) ?k1 ?k4 ?k5 ?k6 ?_; (case k1 => exact X.keeps fun b o e => H b o e); (case k4 => k_is); (case k5 => k_is); (case k6 => k_is))
  have nx : s.heap.get? (s.heap.objs.size + 1) = none := Heap.get?_none_of_le (Nat.le_succ _)
  have nd : s.heap.get? s.heap.objs.size = none := Heap.get?_none_of_le (Nat.le_refl _)
  have k1 : Sub s.heap ((s.heap.push emptyDict).push (instObj 73 s.heap.objs.size)) := fun b o e => Heap.get?_push_of_some _ (Heap.get?_push_of_some _ e)
  have ox : ((s.heap.push emptyDict).push (instObj 73 s.heap.objs.size)).get? (s.heap.objs.size + 1) = some (instObj 73 s.heap.objs.size) := by heap_get
  have od : ((s.heap.push emptyDict).push (instObj 73 s.heap.objs.size)).get? s.heap.objs.size = some (dictOf [] 0) := by heap_get
  have l2 : @LT.lt Nat _ s.heap.objs.size (s.heap.objs.size + 1) := Nat.lt_succ_self _
  generalize s.heap.objs.size + 1 = x at *
  generalize s.heap.objs.size = dx at *
  generalize (s.heap.push emptyDict).push (instObj 73 dx) = hh at *
  show codeAny _ (Ar (dp + 1) _ _ (un + 1)) _ _ _
  k_dflt (refine' enter (f := 70) [(x, instObj 73 dx), (dx, dictOf [] 0)] [("self", .ref x), ("room", .int r t)] X T (H.trans k1) ?oo ?k1 ?k2 ?k3 ?k4 ?k5 ?k6 ?k7 ?k8 ?k9 ?_; (case oo => exact fun q hq => by (rcases Mine.mem_sym hq with rfl | hq; exact ⟨ox, none_of H nx⟩; rcases List.mem_singleton.mp hq with rfl; exact ⟨od, none_of H nd⟩)); (case k1 => k_is); (case k2 => k_is); (case k3 => first | exact Nat.lt_of_le_of_lt (Nat.le_add_right _ _) hdp | (first | exact ar30 hdp | lia)); (case k4 => rfl); (case k5 => exact locs rfl); (case k6 => decide); (case k7 => rfl); (case k8 => rfl); (case k9 => rfl))
  intro g L h₁ fr' A' e_ s1_ m0 Hg Hs Hk F N X T
  have ks := sub_inner k1 nx nd Hk
  k_lt2 l2
  iterate 31 walk1
  rename Fr g L _ _ => F1
  rename News g L _ (_ :: _) => N1
  refine ⟨rfl, ret x dx _ _ _ _ _ _ _ _ _ (ks.trans (Fr.toSub F1)) ?_ (by first | exact nodup4 (by first | assumption | omega) (by assumption) (by assumption) | (trace "OLD"; simp only [List.nodup_cons, List.mem_cons, List.not_mem_nil, or_false, not_or, not_false_eq_true, List.nodup_nil, and_true]; (repeat' apply And.intro) <;> k_ne)) (N1 (x, _) (by k_mem)).1 (N1 (dx, _) (by k_mem)).1 (N1 _ (.tail _ (.tail _ (.head _)))).1 (N1 _ (.tail _ (.head _))).1⟩
  simp only [List.mem_cons, List.not_mem_nil, or_false, forall_eq_or_imp, forall_eq]
  exact ⟨nx, nd, none_of ks (N1 _ (.tail _ (.tail _ (.head _)))).2.2, none_of ks (N1 _ (.tail _ (.head _))).2.2⟩
theorem place_new (X : (hd.heap_1 w.params).In h₀) (T : TopRead p loose mg mb h₀) (H : Sub h₀ s.heap) (hdp : dp + 4 < recursionLimit) (hun : un + 20 < cLine)
  (ret : ∀ x dx Rd Wr t1 t2 h' tk', Sub s.heap h' → (∀ a ∈ [x, dx, Rd, Wr], s.heap.get? a = none) → [x, dx, Rd, Wr].Nodup → h'.get? x = some (instObj 94 dx) → h'.get? dx = some (placeD w t1 t2 Rd Wr) → IntD PG w h' Rd [] → IntD PG w h' Wr [] → (Rd == sysModules) = false → (Wr == sysModules) = false → Q (.ref x) { s with heap := h', toks := tk' }) :
  wpAny (model PySem.Challenge.rw_on0014_01.prog w) (Ar dp fr gd un) (call (.ref 94) []) Q (fun _ _ => False) s := by
  revert X; k_fill; intro X
  refine wpAny_call ?_
  k_dflt (refine' make_H (K := hd.heap_1 w.params) (fI := 91) ?k1 ?k4 ?k5 ?k6 ?_; (case k1 => exact X.keeps fun b o e => H b o e); (case k4 => k_is); (case k5 => k_is); (case k6 => k_is))
  have nx : s.heap.get? (s.heap.objs.size + 1) = none := Heap.get?_none_of_le (Nat.le_succ _)
  have nd : s.heap.get? s.heap.objs.size = none := Heap.get?_none_of_le (Nat.le_refl _)
  have k1 : Sub s.heap ((s.heap.push emptyDict).push (instObj 94 s.heap.objs.size)) := fun b o e => Heap.get?_push_of_some _ (Heap.get?_push_of_some _ e)
  have ox : ((s.heap.push emptyDict).push (instObj 94 s.heap.objs.size)).get? (s.heap.objs.size + 1) = some (instObj 94 s.heap.objs.size) := by heap_get
  have od : ((s.heap.push emptyDict).push (instObj 94 s.heap.objs.size)).get? s.heap.objs.size = some (dictOf [] 0) := by heap_get
  have l2 : @LT.lt Nat _ s.heap.objs.size (s.heap.objs.size + 1) := Nat.lt_succ_self _
  generalize s.heap.objs.size + 1 = x at *
  generalize s.heap.objs.size = dx at *
  generalize (s.heap.push emptyDict).push (instObj 94 dx) = hh at *
  show codeAny _ (Ar (dp + 1) _ _ (un + 1)) _ _ _
  k_dflt (refine' enter (f := 91) [(x, instObj 94 dx), (dx, dictOf [] 0)] [("self", .ref x)] X T (H.trans k1) ?oo ?k1 ?k2 ?k3 ?k4 ?k5 ?k6 ?k7 ?k8 ?k9 ?_; (case oo => exact fun q hq => by (rcases Mine.mem_sym hq with rfl | hq; exact ⟨ox, none_of H nx⟩; rcases List.mem_singleton.mp hq with rfl; exact ⟨od, none_of H nd⟩)); (case k1 => k_is); (case k2 => k_is); (case k3 => first | exact Nat.lt_of_le_of_lt (Nat.le_add_right _ _) hdp | (first | exact ar30 hdp | lia)); (case k4 => rfl); (case k5 => exact locs rfl); (case k6 => decide); (case k7 => rfl); (case k8 => rfl); (case k9 => rfl))
  intro g L h₁ fr' A' e_ s1_ m0 Hg Hs Hk F N X T
  have ks := sub_inner k1 nx nd Hk
  k_lt2 l2
  k_steps
  rename Fr g L _ _ => F1
  rename News g L _ (_ :: _) => N1
  have hI : ∀ {d : Addr} {o : Obj} {h : Heap}, h.get? d = some o → Obj.IsDictOf (intKind PG w) o [] → IntD PG w h d [] := fun e q => ⟨[], Heap.dictOf_iff.mpr ⟨_, e, q⟩, rfl, by simp⟩
  refine ⟨rfl, ret x dx _ _ _ _ _ _ (ks.trans (Fr.toSub F1)) ?_ (by first | exact nodup4 (by first | assumption | omega) (by assumption) (by assumption) | (trace "OLD"; simp only [List.nodup_cons, List.mem_cons, List.not_mem_nil, or_false, not_or, not_false_eq_true, List.nodup_nil, and_true]; (repeat' apply And.intro) <;> k_ne)) (N1 (x, _) (by k_mem)).1 (N1 (dx, _) (by k_mem)).1 (hI (N1 _ (.tail _ (.head _))).1 (by assumption)) (hI (N1 _ (.head _)).1 (by assumption)) (by assumption) (by assumption)⟩
  simp only [List.mem_cons, List.not_mem_nil, or_false, forall_eq_or_imp, forall_eq]
  exact ⟨nx, nd, none_of ks (N1 _ (.tail _ (.head _))).2.2, none_of ks (N1 _ (.head _)).2.2⟩
theorem watch_new (X : (hd.heap_1 w.params).In h₀) (T : TopRead p loose mg mb h₀) (H : Sub h₀ s.heap) (hdp : dp + 4 < recursionLimit) (hun : un + 20 < cLine)
  (ret : ∀ W d C Ln G P R t1 t2 t3 t4 t5 h' tk', Sub s.heap h' → (∀ a ∈ [W, d, C, Ln, G, P, R], s.heap.get? a = none) → [W, d, C, Ln, G, P, R].Nodup → h'.get? W = some (instObj 227 d) → h'.get? d = some (watchD w t1 t2 t3 t4 t5 C Ln G P R) →
    (∀ a ∈ [C, Ln, G, P], h'.DictOf (intKind PG w) a [] ∧ (a == sysModules) = false) → h'.get? R = some (PySem.W.listOf #[] 0) → Q (.ref W) { s with heap := h', toks := tk' }) :
  wpAny (model PySem.Challenge.rw_on0014_01.prog w) (Ar dp fr gd un) (call (.ref 227) []) Q (fun _ _ => False) s := by
  revert X; k_fill; intro X
  refine wpAny_call ?_
  k_dflt (refine' make_H (K := hd.heap_1 w.params) (fI := 112) ?k1 ?k4 ?k5 ?k6 ?_; (case k1 => exact X.keeps fun b o e => H b o e); (case k4 => k_is); (case k5 => k_is); (case k6 => k_is))
  have nx : s.heap.get? (s.heap.objs.size + 1) = none := Heap.get?_none_of_le (Nat.le_succ _)
  have nd : s.heap.get? s.heap.objs.size = none := Heap.get?_none_of_le (Nat.le_refl _)
  have k1 : Sub s.heap ((s.heap.push emptyDict).push (instObj 227 s.heap.objs.size)) := fun b o e => Heap.get?_push_of_some _ (Heap.get?_push_of_some _ e)
  have ox : ((s.heap.push emptyDict).push (instObj 227 s.heap.objs.size)).get? (s.heap.objs.size + 1) = some (instObj 227 s.heap.objs.size) := by heap_get
  have od : ((s.heap.push emptyDict).push (instObj 227 s.heap.objs.size)).get? s.heap.objs.size = some (dictOf [] 0) := by heap_get
  have l2 : @LT.lt Nat _ s.heap.objs.size (s.heap.objs.size + 1) := Nat.lt_succ_self _
  generalize s.heap.objs.size + 1 = x at *
  generalize s.heap.objs.size = dx at *
  generalize (s.heap.push emptyDict).push (instObj 227 dx) = hh at *
  show codeAny _ (Ar (dp + 1) _ _ (un + 1)) _ _ _
  k_dflt (refine' enter (f := 112) [(x, instObj 227 dx), (dx, dictOf [] 0)] [("self", .ref x)] X T (H.trans k1) ?oo ?k1 ?k2 ?k3 ?k4 ?k5 ?k6 ?k7 ?k8 ?k9 ?_; (case oo => exact fun q hq => by (rcases Mine.mem_sym hq with rfl | hq; exact ⟨ox, none_of H nx⟩; rcases List.mem_singleton.mp hq with rfl; exact ⟨od, none_of H nd⟩)); (case k1 => k_is); (case k2 => k_is); (case k3 => first | exact Nat.lt_of_le_of_lt (Nat.le_add_right _ _) hdp | (first | exact ar30 hdp | lia)); (case k4 => rfl); (case k5 => exact locs rfl); (case k6 => decide); (case k7 => rfl); (case k8 => rfl); (case k9 => rfl))
  intro g L h₁ fr' A' e_ s1_ m0 Hg Hs Hk F N X T
  have ks := sub_inner k1 nx nd Hk
  k_lt2 l2
  k_steps
  rename Fr g L _ _ => F1
  rename News g L _ (_ :: _) => N1
  have hI : ∀ {d : Addr} {o : Obj} {h : Heap}, h.get? d = some o → Obj.IsDictOf (intKind PG w) o [] → h.DictOf (intKind PG w) d [] := fun e q => Heap.dictOf_iff.mpr ⟨_, e, q⟩
  refine ⟨rfl, ret x dx _ _ _ _ _ _ _ _ _ _ _ _ (ks.trans (Fr.toSub F1)) ?_ ?_ (N1 (x, _) (by k_mem)).1 (N1 (dx, _) (by k_mem)).1 ?_ (N1 _ (.head _)).1⟩
  rotate_left
  · first | exact nodup7 (by first | assumption | omega) (by assumption) (by assumption) (by assumption) (by assumption) (by assumption) | (trace "OLD"; trace_state; simp only [List.nodup_cons, List.mem_cons, List.not_mem_nil, or_false, not_or, not_false_eq_true, List.nodup_nil, and_true]; (repeat' apply And.intro) <;> k_ne)
  rotate_left
  · simp only [List.mem_cons, List.not_mem_nil, or_false, forall_eq_or_imp, forall_eq]
    exact ⟨nx, nd, none_of ks (N1 _ (.tail _ (.tail _ (.tail _ (.tail _ (.head _)))))).2.2, none_of ks (N1 _ (.tail _ (.tail _ (.tail _ (.head _))))).2.2, none_of ks (N1 _ (.tail _ (.tail _ (.head _)))).2.2, none_of ks (N1 _ (.tail _ (.head _))).2.2, none_of ks (N1 _ (.head _)).2.2⟩
  · simp only [List.mem_cons, List.not_mem_nil, or_false, forall_eq_or_imp, forall_eq]
    exact ⟨⟨hI (N1 _ (.tail _ (.tail _ (.tail _ (.tail _ (.head _)))))).1 (by assumption), by assumption⟩, ⟨hI (N1 _ (.tail _ (.tail _ (.tail _ (.head _))))).1 (by assumption), by assumption⟩, ⟨hI (N1 _ (.tail _ (.tail _ (.head _)))).1 (by assumption), by assumption⟩, ⟨hI (N1 _ (.tail _ (.head _))).1 (by assumption), by assumption⟩⟩
end
section
variable {h₀ s0 v0 g v h : Heap} {fp : List Addr} {L x C : Addr} {ox : Obj} {od : Option Obj} {own news : List (Addr × Obj)} {m : Str → Option Value}
theorem none_old (Z : Ctx h₀ s0 v0 fp g L own v) (F : Fr g L h m) {a : Addr} (ha : a ∉ fp) (hn : h.get? a = none) : s0.get? a = none := by
  cases q : s0.get? a with
  | none => rfl
  | some o =>
    have := F.keep _ _ (Z.hk _ _ ha q)
    rw [hn] at this; cases this
theorem instView0 (I : InstAt v x ox C od) (Z : Ctx h₀ s0 v0 fp g L own v) (F : Fr g L h m) (N : News g L h own) : InstAt h x ox C od := InstAt.keeps' I ((Z.sub F N fun _ h => h).keeps []) (by first | exact nin_nil | exact all_nil | ((repeat (first | exact .head _ | refine .tail _ ?_)); done) | simp) (by first | exact nin_nil | exact all_nil | ((repeat (first | exact .head _ | refine .tail _ ?_)); done) | simp)
theorem instView1 {a : Addr × Obj} (I : InstAt v x ox C od) (Z : Ctx h₀ s0 v0 fp g L own v) (F : Fr g L h m) (N : News g L h (a :: own)) : InstAt h x ox C od := instView0 I Z F (fun p hp => N p (.tail _ hp))
theorem instView2 {a b : Addr × Obj} (I : InstAt v x ox C od) (Z : Ctx h₀ s0 v0 fp g L own v) (F : Fr g L h m) (N : News g L h (a :: b :: own)) : InstAt h x ox C od := instView0 I Z F (fun p hp => N p (.tail _ (.tail _ hp)))
theorem instView3 {a b c : Addr × Obj} (I : InstAt v x ox C od) (Z : Ctx h₀ s0 v0 fp g L own v) (F : Fr g L h m) (N : News g L h (a :: b :: c :: own)) : InstAt h x ox C od := instView0 I Z F (fun p hp => N p (.tail _ (.tail _ (.tail _ hp))))
end
section
variable {prog : Program} {w : World} {A : Around} {E : Value → Shared → Prop} {s : Shared} {vs : Heap} {d l : Addr}
theorem dict_setItem {kvs : List (Int × Value)} (D : vs.DictOf (intKind prog w) d kvs) (V : Sub vs s.heap) {k : Int} {t : Tok} {val : Value} {Q : Unit → Shared → Prop} (hn : kvs.length ≤ 1000)
    (h : ∀ v' h', Post s.heap vs v' h' [d] → v'.DictOf (intKind prog w) d (stored kvs k val) → Q () { s with heap := h', toks := s.toks + 1 }) : wpAny (model prog w) A (PySem.setItem (.ref d) (.int k t) val) Q E s := by
  refine wpAny_setItem_pairs (intKind_is prog w k t) (D.keep V) (fun h' hD' hs => ?_) (by rw [sizeLine_eq]; (first | exact ar4 hn | lia))
  have hk : Keeps [d] s.heap h' := fun b o hb e => (hs.2 b (by first | exact Mine.nin1 (hb) | exact Mine.all1 (hb) | simpa using hb)).trans e
  refine Mine.byv fun P_ kP_ => ?_
  obtain ⟨o, ho, hO⟩ := Heap.dictOf_iff.mp hD'
  obtain ⟨o', ho', _⟩ := Heap.dictOf_iff.mp D
  obtain ⟨v', P, hv'⟩ := Post.one V ⟨o', ho'⟩ hk ho
  refine kP_ ?_
  clear kP_ P_
  exact h v' h' P (Heap.dictOf_iff.mpr ⟨o, hv', hO⟩)
theorem dict_notIn {kvs : List (Int × Value)} (D : vs.DictOf (intKind prog w) d kvs) (V : Sub vs s.heap) (lo : (d == sysModules) = false) {k : Int} {t : Tok} {Q : Value → Shared → Prop} (hb : valueAt kvs k = none) (h : Q (.bool true) { s with toks := s.toks + 1 }) :
    wpAny (model prog w) A (compareOp .NotIn (.int k t) (.ref d)) Q E s := wpAny_notIn_of (intKind_is prog w k t) lo (D.keep V).mapOf (by rw [hb]; exact h)
theorem dict_isIn {kvs : List (Int × Value)} (D : vs.DictOf (intKind prog w) d kvs) (V : Sub vs s.heap) (lo : (d == sysModules) = false) {k : Int} {t : Tok} {v : Value} {Q : Value → Shared → Prop} (hb : valueAt kvs k = some v) (h : Q (.bool false) { s with toks := s.toks + 1 }) :
    wpAny (model prog w) A (compareOp .NotIn (.int k t) (.ref d)) Q E s := wpAny_notIn_of (intKind_is prog w k t) lo (D.keep V).mapOf (by rw [hb]; exact h)
theorem dict_tail {kvs : List (Int × Value)} (D : vs.DictOf (intKind prog w) d kvs) (V : Sub vs s.heap) {value slice : Expr} {k : Int} {t : Tok} {v : Value} {Q : Value → Shared → Prop} (hk : valueAt kvs k = some v) (h : Q v { s with toks := s.toks + 1 })
    (hs : subscripted slice false (.ref d) (.int k t) = operate [.ref d, .int k t] (PySem.getItem (.ref d) (.int k t)) := by with_unfolding_all rfl) : wpAny (model prog w) A (subscriptTail value slice (.ref d) (.int k t)) Q E s :=
  tail_any (D.keep V).typeIs slot_dict_getitem.lookup (wpAny_getItem_of (intKind_is prog w k t) (D.keep V).mapOf hk h) hs
theorem list_method {xs : Array Value} {n : Nat} (e : vs.get? l = some (listOf xs n)) (V : Sub vs s.heap) {pl : Sem Bool} {Q : Value × List Value → Shared → Prop} (h : Q (.builtin "list.append", [.ref l]) s) : wpAny (model prog w) A (getMethod (.ref l) "append" pl) Q E s :=
  getMethod_list_append (V _ _ e) rfl rfl h
theorem list_append_post {xs : Array Value} {n : Nat} {x : Value} (e : vs.get? l = some (listOf xs n)) (V : Sub vs s.heap) {Q : Value → Shared → Prop} (hsz : xs.size ≤ 100000)
    (h : ∀ v' h' k, Post s.heap vs v' h' [l] → v'.get? l = some (listOf (xs.push x) k) → Q .none { s with heap := h' }) : wpAny (model prog w) A (call (.builtin "list.append") [.ref l, x]) Q E s := by
  refine append_at (V _ _ e) (fun h' hs ho' => ?_) (by rw [sizeLine_eq]; (first | exact ar26 hsz | lia))
  have hk : Keeps [l] s.heap h' := fun b o hb e => (hs.2 b (by first | exact Mine.nin1 (hb) | exact Mine.all1 (hb) | simpa using hb)).trans e
  obtain ⟨v', P, hv'⟩ := Post.one V ⟨_, e⟩ hk ho'
  exact h v' h' _ P hv'
end
/-- where a line stands: the object, its dict, its two lists -/
structure LA where
  x : Addr
  dx : Addr
  S : Addr
  Rv : Addr
noncomputable def LineAt (w : World) (h : Heap) (la : LA) (m : Nat) : Prop := (∃ t1 t2 t3 t4 room e, InstAt h la.x (instObj 73 la.dx) 73 (some (lineD w t1 t2 t3 t4 room la.S la.Rv e))) ∧ (∃ vs k, h.get? la.S = some (listOf vs k) ∧ vs.size ≤ m) ∧ (∃ vs k, h.get? la.Rv = some (listOf vs k) ∧ vs.size ≤ m)
noncomputable def LS (w : World) (h : Heap) (Ln : Addr) (lp : Option LA) (m : Nat) : Prop := (Ln == sysModules) = false ∧ match lp with
  | none => h.DictOf (intKind PG w) Ln []
  | some la => h.DictOf (intKind PG w) Ln [(9, .ref la.x)] ∧ LineAt w h la m
noncomputable def LA.fp (la : LA) : List Addr := [la.S, la.Rv]
noncomputable def fpOf : Option LA → List Addr
  | none => []
  | some la => la.fp
section
variable {w : World} {h h' : Heap} {Ln : Addr} {lp : Option LA} {la : LA} {m : Nat} {fp : List Addr}
theorem LineAt.keeps (x : LineAt w h la m) (k : Keeps fp h h') (hx : la.x ∉ fp) (hd : la.dx ∉ fp) (hS : la.S ∉ fp) (hR : la.Rv ∉ fp) : LineAt w h' la m := by
  refine Mine.byv fun P_ kP_ => ?_
  obtain ⟨⟨t1, t2, t3, t4, room, e, I⟩, ⟨vs, n, a, b⟩, ⟨us, n', c, d⟩⟩ := x
  refine kP_ ?_
  clear kP_ P_
  exact ⟨⟨t1, t2, t3, t4, room, e, InstAt.keeps' I k hx (fun a e => Mine.dict_nin e (by exact hd))⟩, ⟨vs, n, k _ _ hS a, b⟩, ⟨us, n', k _ _ hR c, d⟩⟩
theorem LS.up (x : LS w h Ln lp m) (k : Sub h h') : LS w h' Ln lp m := by
  refine ⟨x.1, ?_⟩
  cases lp with
  | none => exact x.2.keep k
  | some la => exact ⟨x.2.1.keep k, x.2.2.keeps (k.keeps []) (by first | exact nin_nil | exact all_nil | ((repeat (first | exact .head _ | refine .tail _ ?_)); done) | simp) (by first | exact nin_nil | exact all_nil | ((repeat (first | exact .head _ | refine .tail _ ?_)); done) | simp) (by first | exact nin_nil | exact all_nil | ((repeat (first | exact .head _ | refine .tail _ ?_)); done) | simp) (by first | exact nin_nil | exact all_nil | ((repeat (first | exact .head _ | refine .tail _ ?_)); done) | simp)⟩
theorem LS.alive (x : LS w h Ln lp m) : ∃ o, h.get? Ln = some o := by
  cases lp with
  | none => obtain ⟨_, o, _, _, ho, _⟩ := x; exact ⟨o, ho⟩
  | some la => obtain ⟨_, ⟨o, _, _, ho, _⟩, _⟩ := x; exact ⟨o, ho⟩
theorem LS.noTup (x : LS w h Ln lp m) : NoTup h [Ln] := fun a ha o e => by
  have : a = Ln := by simpa using ha
  subst this
  cases lp with
  | none =>
    refine Mine.byv fun P_ kP_ => ?_
    obtain ⟨_, o', _, _, ho, hc, _⟩ := x
    refine kP_ ?_
    clear kP_ P_
    rw [ho] at e; cases e
    exact fun hh => absurd (hc.1.symm.trans hh.1) (by first | exact nin_nil | exact all_nil | ((repeat (first | exact .head _ | refine .tail _ ?_)); done) | simp)
  | some la =>
    refine Mine.byv fun P_ kP_ => ?_
    obtain ⟨_, ⟨o', _, _, ho, hc, _⟩, _⟩ := x
    refine kP_ ?_
    clear kP_ P_
    rw [ho] at e; cases e
    exact fun hh => absurd (hc.1.symm.trans hh.1) (by first | exact nin_nil | exact all_nil | ((repeat (first | exact .head _ | refine .tail _ ?_)); done) | simp)
end
local macro_rules | `(tactic| k_inst) => `(tactic| first | (apply InstAt.lift <;> assumption) | (apply instView0 <;> assumption) | (apply instView1 <;> assumption) | (apply instView2 <;> assumption) | (apply instView3 <;> assumption))
section
variable {p : Program} {loose : List Str} {mg mb : Str → Option Value} {w : World} {dp un : Nat} {fr : Option (List Env)} {gd : Option (List Code)} {h₀ v : Heap} {s : Shared} {Q : Value → Shared → Prop}
theorem line_call (X : (hd.heap_1 w.params).In h₀) (T : TopRead p loose mg mb h₀) (H : Sub h₀ v) (V : Sub v s.heap) (hdp : dp + 6 < recursionLimit) (hun : un + 80 < cLine)
  {W d C Ln G P R : Addr} {t1 t2 t3 t4 t5 : Tok} (I : InstAt v W (instObj 227 d) 227 (some (watchD w t1 t2 t3 t4 t5 C Ln G P R))) (hWL : W ≠ Ln) (hdL : d ≠ Ln) (hoff : h₀.get? Ln = none)
  {t tz : Tok} {lp : Option LA} {m : Nat} (D : LS w v Ln lp m)
  (ret : ∀ la v' h' tk', Post s.heap v v' h' [Ln] → LS w v' Ln (some la) m → (lp = some la ∨ (lp = none ∧ [la.x, la.dx, la.S, la.Rv].Nodup ∧ ∀ a ∈ [la.x, la.dx, la.S, la.Rv], s.heap.get? a = none)) → Q (.ref la.x) {s with heap := h', toks := tk'}) :
  wpAny (model PySem.Challenge.rw_on0014_01.prog w) (Ar dp fr gd un) (call (.ref 147) [.ref W, .int 9 t, .int 0 tz]) Q (fun _ _ => False) s := by
  have X0 := X
  have T0 := T
  revert X; k_fill; intro X
  refine wpAny_call ?_
  k_dflt (refine' into (f := 147) [Ln] [("self", .ref W), ("channel", .int 9 t), ("room", .int 0 tz)] X T H V ?o1 ?o2 ?k1 ?k2 ?k3 ?k4 ?k5 ?k6 ?k7 ?k8 ?k9 ?_; (case o1 => first | exact Mine.all1 hoff | simpa using hoff); (case o2 => first | exact Mine.all1 D.alive | simpa using D.alive); (case k1 => k_is); (case k2 => k_is); (case k3 => first | exact Nat.lt_of_le_of_lt (Nat.le_add_right _ _) hdp | lia); (case k4 => rfl); (case k5 => exact locs rfl); (case k6 => decide); (case k7 => rfl); (case k8 => rfl); (case k9 => rfl))
  intro g L h₁ fr' own A' e_ s1_ m0 Z F N Xg Tg
  have IG : InstAt g W (instObj 227 d) 227 (some (watchD w t1 t2 t3 t4 t5 C Ln G P R)) := InstAt.keeps' I (fun b o n e => Z.hk b o n (V b o e)) (by first | exact Mine.nin1 (hWL) | exact Mine.all1 (hWL) | simpa using hWL) (fun a e => Mine.dict_nin e (by first | exact Mine.nin1 (hdL) | exact Mine.all1 (hdL) | simpa using hdL))
  iterate 7 walk1
  cases lp with
  | none =>
    refine dict_notIn D.2 (Z.sub F N fun _ h => h) D.1 rfl ?_
    iterate 12 walk1
    rename Fr g L _ _ => F1
    rename News g L _ own => N1
    refine line_new Xg Tg (Fr.toSub F1) (Mine.room hdp) (Mine.room hun) fun x dx S Rv e t1 t2 t3 t4 h1 tk1 k1 hno hnd ox od oS oR => ?_
    refine Z.pureK F1 N1 k1 ?_
    intro v1 own1 mm_ Z1  F2  N2  kv1  kh1  _  hnew
    (try (refine Mine.wp_let ?_; intro sQ71_))
    have nx := hno x (by first | exact nin_nil | exact all_nil | ((repeat (first | exact .head _ | refine .tail _ ?_)); done) | simp)
    have nd := hno dx (by first | exact nin_nil | exact all_nil | ((repeat (first | exact .head _ | refine .tail _ ?_)); done) | simp)
    have nS := hno S (by first | exact nin_nil | exact all_nil | ((repeat (first | exact .head _ | refine .tail _ ?_)); done) | simp)
    have nR := hno Rv (by first | exact nin_nil | exact all_nil | ((repeat (first | exact .head _ | refine .tail _ ?_)); done) | simp)
    have hLx : Ln ∉ [x, dx, S, Rv] := fun q => by
      obtain ⟨o, ho⟩ := D.alive
      have e1 := hno Ln q
      have e2 := Z.sub F1 N1 (fun _ h => h) _ _ ho
      (try dsimp only at e1)
      rw [e2] at e1; cases e1
    have hold : ∀ a ∈ [x, dx, S, Rv], s.heap.get? a = none := fun a ha => none_old Z F1 (fun q => hLx (List.mem_singleton.mp q ▸ ha)) (hno a ha)
    have I1 : InstAt v1 x (instObj 73 dx) 73 (some (lineD w t1 t2 t3 t4 (.int 0 tz) S Rv e)) := ⟨hnew _ _ ox nx, rfl, rfl, hnew _ _ od nd⟩
    (try clear F1); (try clear N1); (try clear F); (try clear N)
    iterate 4 walk1
    refine dict_setItem (D.2.keep kv1) kh1 (by first | exact nin_nil | exact all_nil | ((repeat (first | exact .head _ | refine .tail _ ?_)); done) | simp) fun v2 h2 P2 D2 => ?_
    have hal := (D.up kv1).alive
    refine Z1.backK F2 N2 P2 (by first | exact Mine.nin1 (Z.offg Ln (.head _)) | exact Mine.all1 (Z.offg Ln (.head _)) | simpa using Z.offg Ln (.head _)) (by first | exact Mine.nin1 (hal) | exact Mine.all1 (hal) | simpa using hal) ?_
    intro own2 mm_ Z2  F3  N3
    (try (refine Mine.wp_let ?_; intro sQ72_))
    iterate 11 walk1
    refine dict_tail D2 (Z2.sub F3 N3 fun _ h => h) (v := .ref x) (by first | ((repeat' (first | exact nin_nil | exact all_nil | (refine nin_cons ?_ ?_) | (refine all_cons ?_ ?_) | assumption | exact Ne.symm (by assumption))); done) | simp [valueAt, stored]) ?_
    k_steps
    (try k_steps)
    show Q (.ref x) _
    simp only [List.mem_cons, List.not_mem_nil, or_false, not_or] at hLx
    have L1 : LineAt w v1 ⟨x, dx, S, Rv⟩ m := ⟨⟨_, _, _, _, _, _, I1⟩, ⟨_, _, hnew _ _ oS nS, Nat.zero_le _⟩, ⟨_, _, hnew _ _ oR nR, Nat.zero_le _⟩⟩
    (try k_steps)
    exact ret ⟨x, dx, S, Rv⟩ v2 _ _ (Z2.post F3 N3) ⟨D.1, by simpa [stored] using D2, L1.keeps P2.keeps (by first | exact Mine.nin1 (Ne.symm hLx.1) | exact Mine.all1 (Ne.symm hLx.1) | simpa using Ne.symm hLx.1) (by first | exact Mine.nin1 (Ne.symm hLx.2.1) | exact Mine.all1 (Ne.symm hLx.2.1) | simpa using Ne.symm hLx.2.1) (by first | exact Mine.nin1 (Ne.symm hLx.2.2.1) | exact Mine.all1 (Ne.symm hLx.2.2.1) | simpa using Ne.symm hLx.2.2.1) (by first | exact Mine.nin1 (Ne.symm hLx.2.2.2) | exact Mine.all1 (Ne.symm hLx.2.2.2) | simpa using Ne.symm hLx.2.2.2)⟩ (.inr ⟨rfl, hnd, hold⟩)
  | some la =>
    refine dict_isIn D.2.1 (Z.sub F N fun _ h => h) D.1 (by simp [valueAt]; rfl) ?_
    iterate 13 walk1
    refine dict_tail D.2.1 (Z.sub F N fun _ h => h) (v := .ref la.x) (by first | ((repeat' (first | exact nin_nil | exact all_nil | (refine nin_cons ?_ ?_) | (refine all_cons ?_ ?_) | assumption | exact Ne.symm (by assumption))); done) | simp [valueAt]) ?_
    k_steps
    (try k_steps)
    show Q (.ref la.x) _
    (try k_steps)
    exact ret la v _ _ ((Z.post F N).mono (by first | exact nin_nil | exact all_nil | ((repeat (first | exact .head _ | refine .tail _ ?_)); done) | simp)) D (.inl rfl)
end
/-- a clock of at most four goroutines: each told once, each count at least 1 -/
noncomputable def KOk (c : List (Int × Int)) : Prop := (c.map (·.1)).Nodup ∧ ∀ p ∈ c, (0 ≤ p.1 ∧ p.1 < 4) ∧ 1 ≤ p.2
theorem short_ints : ∀ (n : Nat) (l : List Int), l.Nodup → (∀ x ∈ l, 0 ≤ x ∧ x < n) → l.length ≤ n
  | 0, l, _, h => by
    cases l with
    | nil => simp
    | cons x l => have := h x (.head _); (first | exact ar183 this | lia)
  | n + 1, l, hn, h => by
    have := short_ints n (l.erase (n : Int)) (hn.erase _) (fun x hx => by
      have h1 := h x (List.mem_of_mem_erase hx)
      have h2 : x ≠ n := ((List.Nodup.mem_erase_iff hn).mp hx).1
      lia)
    have h3 := List.length_erase (a := (n : Int)) (l := l)
    split at h3 <;> lia
theorem KOk.short {c : List (Int × Int)} (h : KOk c) : c.length ≤ 4 := by
  have := short_ints 4 (c.map (·.1)) h.1 (fun x hx => by
    obtain ⟨p, hp, rfl⟩ := List.mem_map.mp hx
    have := (h.2 p hp).1
    (first | exact ar150 this | lia))
  rwa [List.length_map] at this
theorem cnt_mem {c : List (Int × Int)} (hn : (c.map (·.1)).Nodup) {p : Int × Int} (hp : p ∈ c) : cnt c p.1 = p.2 := by
  induction c with
  | nil => cases hp
  | cons x r ih =>
    rw [List.map_cons, List.nodup_cons] at hn
    rcases Mine.mem_sym hp with rfl | hp
    · simp [cnt]
    · have : ¬ x.1 = p.1 := fun e => hn.1 (List.mem_map.mpr ⟨p, hp, e.symm⟩)
      rw [cnt, if_neg this]; exact ih hn.2 hp
theorem cnt_zero {c : List (Int × Int)} {g : Int} (h : ∀ p ∈ c, p.1 ≠ g) : cnt c g = 0 := by
  have := cnt_append_no (b := []) h
  rwa [List.append_nil] at this
theorem cnt_perm {c c' : List (Int × Int)} (h : c.Perm c') (hn : (c'.map (·.1)).Nodup) (g : Int) : cnt c g = cnt c' g := by
  have hn' : (c.map (·.1)).Nodup := (h.map _).nodup_iff.mpr hn
  by_cases q : ∃ p ∈ c', p.1 = g
  · obtain ⟨p, hp, rfl⟩ := q
    rw [cnt_mem hn hp, cnt_mem hn' (h.mem_iff.mpr hp)]
  · have q' : ∀ p ∈ c', p.1 ≠ g := fun p hp e => q ⟨p, hp, e⟩
    rw [cnt_zero q', cnt_zero fun p hp => q' p (h.mem_iff.mp hp)]
theorem KOk.perm {c c' : List (Int × Int)} (h : c.Perm c') (k : KOk c') : KOk c := ⟨(h.map _).nodup_iff.mpr k.1, fun p hp => k.2 p (h.mem_iff.mp hp)⟩
theorem KOk.nonneg {c : List (Int × Int)} (k : KOk c) (g : Int) : 0 ≤ cnt c g := by
  by_cases q : ∃ p ∈ c, p.1 = g
  · obtain ⟨p, hp, rfl⟩ := q
    rw [cnt_mem k.1 hp]; have := (k.2 p hp).2; (first | exact ar46 this | lia)
  · rw [cnt_zero fun p hp e => q ⟨p, hp, e⟩]; (first | exact ar19 | lia)
theorem storeI_keys (c : List (Int × Int)) (k x : Int) : (storeI c k x).map (·.1) = if c.any (fun kv => kv.1 = k) then c.map (·.1) else c.map (·.1) ++ [k] := by
  unfold storeI
  split
  · rw [List.map_map]
    exact List.map_congr_left fun p _ => by by_cases e : p.1 = k <;> simp [e]
  · simp
theorem storeI_nodup {c : List (Int × Int)} (h : (c.map (·.1)).Nodup) (k x : Int) : ((storeI c k x).map (·.1)).Nodup := by
  rw [storeI_keys]
  split
  · exact h
  · rename_i q
    rw [List.nodup_append]
    refine ⟨h, by simp, fun a ha b hb => ?_⟩
    rw [List.mem_singleton.mp hb]
    rintro rfl
    obtain ⟨p, hp, e⟩ := List.mem_map.mp ha
    exact q (List.any_eq_true.mpr ⟨p, hp, by simpa using e⟩)
theorem cnt_storeI (c : List (Int × Int)) (k x g : Int) : cnt (storeI c k x) g = if g = k then x else cnt c g := by
  unfold storeI
  by_cases q : c.any (fun kv => kv.1 = k) = true
  · rw [if_pos q]
    have gen : ∀ c : List (Int × Int), cnt (c.map fun kv => if kv.1 = k then (kv.1, x) else kv) g = if g = k ∧ c.any (fun kv => kv.1 = k) = true then x else cnt c g := by
      intro c
      induction c with
      | nil => simp [cnt]
      | cons p c ih =>
        rw [List.map_cons, cnt, cnt]
        by_cases e : p.1 = k
        · by_cases eg : g = k
          · subst eg; simp [e]
          · have t : ¬ k = g := fun h => eg h.symm
            simp [e, eg, t, ih]
        · by_cases eg : p.1 = g
          · have t : ¬ g = k := fun h => e (by rw [eg, h])
            simp [e, eg, t]
          · rw [if_neg e, if_neg eg, if_neg eg, ih, List.any_cons, decide_eq_false e, Bool.false_or]
    rw [gen, q]; simp
  · rw [if_neg q]
    have q' : ∀ p ∈ c, p.1 ≠ k := fun p hp e => q (List.any_eq_true.mpr ⟨p, hp, by simpa using e⟩)
    by_cases e : g = k
    · subst e
      rw [if_pos rfl, cnt_append_no q']; simp [cnt]
    · rw [if_neg e]
      have t : ¬ k = g := fun h => e h.symm
      clear q q'
      induction c with
      | nil => simp [cnt, t]
      | cons p c ih => rw [List.cons_append, cnt, cnt, ih]
theorem mem_storeI {c : List (Int × Int)} {k x : Int} {p : Int × Int} (h : p ∈ storeI c k x) : p = (k, x) ∨ p ∈ c := by
  unfold storeI at h
  split at h
  · obtain ⟨q, hq, rfl⟩ := List.mem_map.mp h
    by_cases e : q.1 = k
    · simp [e]
    · simp [e, hq]
  · rcases List.mem_append.mp h with h | h
    · exact .inr h
    · exact .inl (List.mem_singleton.mp h)
theorem KOk.store {c : List (Int × Int)} (k : KOk c) {g x : Int} (hg : 0 ≤ g ∧ g < 4) (hx : 1 ≤ x) : KOk (storeI c g x) :=
  ⟨storeI_nodup k.1 g x, fun p hp => (mem_storeI hp).elim (fun e => by subst e; exact ⟨hg, hx⟩) (k.2 p)⟩
theorem ofPairs_same {a : List (Int × Int)} : ∀ {acc : List (Int × Int)}, ((acc ++ a).map (·.1)).Nodup → a.foldl (fun acc x => storeI acc x.1 x.2) acc = acc ++ a := by
  induction a with
  | nil => intro acc _; simp
  | cons x a ih =>
    intro acc h
    rw [List.foldl_cons]
    have e : storeI acc x.1 x.2 = acc ++ [x] := by
      unfold storeI
      rw [if_neg]
      intro q
      obtain ⟨p, hp, e⟩ := List.any_eq_true.mp q
      rw [List.map_append, List.map_cons, List.nodup_append] at h
      exact h.2.2 p.1 (List.mem_map.mpr ⟨p, hp, rfl⟩) x.1 (.head _) (by simpa using e)
    rw [e, ih (by simpa using h)]
    simp
theorem joinStep {b : List (Int × Int)} (hb : KOk b) : ∀ {acc : List (Int × Int)}, KOk acc → KOk (b.foldl (fun acc x => if x.2 > cnt acc x.1 then storeI acc x.1 x.2 else acc) acc) ∧
    ∀ g, cnt (b.foldl (fun acc x => if x.2 > cnt acc x.1 then storeI acc x.1 x.2 else acc) acc) g = max (cnt acc g) (cnt b g) := by
  induction b with
  | nil =>
    intro acc ha
    refine ⟨ha, fun g => ?_⟩
    have := ha.nonneg g
    simp [cnt]; (first | exact ar154 this | lia)
  | cons x b ih =>
    intro acc ha
    have hb' : KOk b := ⟨(List.nodup_cons.mp (by simpa using hb.1)).2, fun p hp => hb.2 p (.tail _ hp)⟩
    have hx := hb.2 x (.head _)
    have hno : ∀ p ∈ b, p.1 ≠ x.1 := fun p hp e => by
      have := hb.1
      rw [List.map_cons, List.nodup_cons] at this
      exact this.1 (List.mem_map.mpr ⟨p, hp, e⟩)
    rw [List.foldl_cons]
    have hacc : KOk (if x.2 > cnt acc x.1 then storeI acc x.1 x.2 else acc) := by
      split
      · exact ha.store hx.1 hx.2
      · exact ha
    obtain ⟨k1, k2⟩ := ih hb' hacc
    refine ⟨k1, fun g => ?_⟩
    rw [k2 g, cnt]
    by_cases e : x.1 = g
    · rw [if_pos e]
      have z : cnt b g = 0 := cnt_zero fun p hp => by rw [← e]; exact hno p hp
      rw [z]
      have nn := hacc.nonneg g
      split
      · rename_i hgt
        rw [cnt_storeI, if_pos e.symm]
        rw [e] at hgt
        lia
      · rename_i hgt
        have := ha.nonneg g
        rw [e] at hgt
        lia
    · rw [if_neg e]
      split
      · rw [cnt_storeI, if_neg (fun h => e h.symm)]
      · rfl
/-- what two clocks come to -/
noncomputable def JoinOf (c a b : List (Int × Int)) : Prop := KOk c ∧ ∀ g, cnt c g = max (cnt a g) (cnt b g)
theorem joinL_spec {a b c : List (Int × Int)} (ha : KOk a) (hb : KOk b) (h : c.Perm (joinL a b)) : JoinOf c a b := by
  have e : a.foldl (fun acc x => storeI acc x.1 x.2) [] = a := by
    have := ofPairs_same (a := a) (acc := []) (by simpa using ha.1)
    simpa using this
  unfold joinL at h
  rw [e] at h
  obtain ⟨k1, k2⟩ := joinStep hb ha
  exact ⟨k1.perm h, fun g => by rw [cnt_perm h k1.1, k2]⟩
theorem KOk.one {g x : Int} (hg : 0 ≤ g ∧ g < 4) (hx : 1 ≤ x) : KOk [(g, x)] := ⟨by simp, fun p hp => by rw [List.mem_singleton.mp hp]; exact ⟨hg, hx⟩⟩
theorem KOk.nil : KOk [] := ⟨by simp, by simp⟩
/-- a clock one further on for g -/
noncomputable def TickOf (c a : List (Int × Int)) (g : Int) : Prop := KOk c ∧ ∀ x, cnt c x = if x = g then cnt a g + 1 else cnt a x
theorem tick_spec {a c : List (Int × Int)} {g : Int} (ha : KOk a) (hg : 0 ≤ g ∧ g < 4) (h : c.Perm (joinL a [(g, cnt a g + 1)])) : TickOf c a g := by
  have hn := ha.nonneg g
  obtain ⟨k1, k2⟩ := joinL_spec ha (KOk.one hg (by (first | exact ar153 hn | lia))) h
  refine ⟨k1, fun x => ?_⟩
  rw [k2 x]
  by_cases e : x = g
  · subst e; simp [cnt]; (first | exact ar147 | lia)
  · have t : ¬ g = x := fun h => e h.symm
    have := ha.nonneg x
    simp [cnt, e, t]; (first | exact ar155 this | lia)
noncomputable def lineAll : Option LA → List Addr
  | none => []
  | some la => [la.x, la.dx, la.S, la.Rv]
theorem noTup_list {h : Heap} {l : Addr} {xs : Array Value} {n : Nat} (e : h.get? l = some (PySem.W.listOf xs n)) : NoTup h [l] := fun a ha o q => by
  have : a = l := by simpa using ha
  subst this
  rw [e] at q; cases q
  exact fun hh => absurd hh.1 (by first | ((repeat' (first | exact nin_nil | exact all_nil | (refine nin_cons ?_ ?_) | (refine all_cons ?_ ?_) | assumption | exact Ne.symm (by assumption))); done) | simp [PySem.W.listOf])
theorem cOf_upd (cm : Int → Option (List (Int × Int))) (x y : Int) (c : List (Int × Int)) : cOf (upd cm x c) y = if y = x then c else cOf cm y := by
  unfold cOf upd
  split <;> rfl
theorem dict_noTup {w : World} {h : Heap} {Ln : Addr} {kvs : List (Int × Value)} (x : h.DictOf (intKind PG w) Ln kvs) : NoTup h [Ln] := fun a ha o e => by
  have : a = Ln := by simpa using ha
  subst this
  refine Mine.byv fun P_ kP_ => ?_
  obtain ⟨o', _, _, ho, hc, _⟩ := x
  refine kP_ ?_
  clear kP_ P_
  rw [ho] at e; cases e
  exact fun hh => absurd (hc.1.symm.trans hh.1) (by first | exact nin_nil | exact all_nil | ((repeat (first | exact .head _ | refine .tail _ ?_)); done) | simp)
section
variable {p : Program} {loose : List Str} {mg mb : Str → Option Value} {w : World} {dp un : Nat} {fr : Option (List Env)} {gd : Option (List Code)} {h₀ v : Heap} {s : Shared} {Q : Value → Shared → Prop}
theorem hand_call (X : (hd.heap_1 w.params).In h₀) (T : TopRead p loose mg mb h₀) (H : Sub h₀ v) (V : Sub v s.heap) (hdp : dp + 8 < recursionLimit) (hun : un + 100 < cLine)
  {W d C Ln G P R : Addr} {t1 t2 t3 t4 t5 : Tok} (I : InstAt v W (instObj 227 d) 227 (some (watchD w t1 t2 t3 t4 t5 C Ln G P R)))
  {a b : Int} {ta tb tz : Tok} {n m : Nat} {cm : Int → Option (List (Int × Int))} {lp : Option LA} (D : CM w v C n cm) (DL : LS w v Ln lp m) (hn : n + 7 ≤ 1000) (hm : m ≤ 1000) (hnd : (W :: d :: C :: Ln :: lineAll lp).Nodup)
  (hoff : ∀ x ∈ [C, Ln] ++ fpOf lp, h₀.get? x = none) (ha4 : 0 ≤ a ∧ a < 4) (hb4 : 0 ≤ b ∧ b < 4) (hab : a ≠ b) (ha : KOk (cOf cm a)) (hb : KOk (cOf cm b))
  (ret : ∀ c3 c4 la v' h' tk', Post s.heap v v' h' ([C, Ln] ++ fpOf lp) → CM w v' C (n + 8) (upd (upd cm a c3) b c4) → LS w v' Ln (some la) (m + 1) → (W :: d :: C :: Ln :: lineAll (some la)).Nodup → (lp = some la ∨ (lp = none ∧ ∀ x ∈ lineAll (some la), s.heap.get? x = none)) →
    (KOk c3 ∧ ∀ g, cnt c3 g = max (if g = a then cnt (cOf cm a) a + 1 else cnt (cOf cm a) g) (cnt (cOf cm b) g)) → (KOk c4 ∧ ∀ g, cnt c4 g = max (if g = b then cnt (cOf cm b) b + 1 else cnt (cOf cm b) g) (cnt (cOf cm a) g)) → Q .none {s with heap := h', toks := tk'}) :
  wpAny (model PySem.Challenge.rw_on0014_01.prog w) (Ar dp fr gd un) (call (.ref 168) [.ref W, .int a ta, .int b tb, .int 9 tz]) Q (fun _ _ => False) s := by
  have hal : ∀ x ∈ [C, Ln] ++ fpOf lp, ∃ o, v.get? x = some o := by
    intro x hx
    simp only [List.cons_append, List.nil_append, List.mem_cons] at hx
    rcases hx with q_ | q_ | hx
    · cases q_; exact D.alive
    · cases q_; exact DL.alive
    · cases lp with
      | none => cases hx
      | some la =>
        refine Mine.byv fun P_ kP_ => ?_
        obtain ⟨_, _, _, ⟨vs, k, e, _⟩, ⟨us, k', e', _⟩⟩ := DL
        refine kP_ ?_
        clear kP_ P_
        rcases Mine.mem_sym hx with rfl | hx
        · exact ⟨_, e⟩
        · rw [List.mem_singleton.mp hx]; exact ⟨_, e'⟩
  simp only [List.nodup_cons, List.mem_cons, not_or] at hnd
  refine Mine.byv fun P_ kP_ => ?_
  obtain ⟨⟨hWd, hWC, hWL, hWl⟩, ⟨hdC, hdL, hdl⟩, ⟨hCL, hCl⟩, hLl, hll⟩ := hnd
  refine kP_ ?_
  clear kP_ P_
  have X0 := X
  have T0 := T
  revert X; k_fill; intro X
  refine wpAny_call ?_
  k_dflt (refine' into (f := 168) ([C, Ln] ++ fpOf lp) [("self", .ref W), ("sender", .int a ta), ("receiver", .int b tb), ("channel", .int 9 tz)] X T H V ?o1 ?o2 ?k1 ?k2 ?k3 ?k4 ?k5 ?k6 ?k7 ?k8 ?k9 ?_; (case o1 => exact hoff); (case o2 => exact hal); (case k1 => k_is); (case k2 => k_is); (case k3 => first | exact Nat.lt_of_le_of_lt (Nat.le_add_right _ _) hdp | lia); (case k4 => rfl); (case k5 => exact locs rfl); (case k6 => decide); (case k7 => rfl); (case k8 => rfl); (case k9 => rfl))
  intro g L h₁ fr' own A' e_ s1_ m0 Z F N Xg Tg
  have fpl : ∀ x ∈ fpOf lp, x ∈ lineAll lp := by
    cases lp with
    | none => exact fun x hx => by cases hx
    | some la => exact fun x hx => .tail _ (.tail _ hx)
  have IG : InstAt g W (instObj 227 d) 227 (some (watchD w t1 t2 t3 t4 t5 C Ln G P R)) := InstAt.keeps' I (fun b o n e => Z.hk b o n (V b o e)) (fun q => by
      simp only [List.cons_append, List.nil_append, List.mem_cons] at q
      exact q.elim hWC fun q => q.elim hWL fun q => hWl (fpl _ q)) (fun x e q => by
      cases e
      simp only [List.cons_append, List.nil_append, List.mem_cons] at q
      exact q.elim hdC fun q => q.elim hdL fun q => hdl (fpl _ q))
  have offC := Z.offg C (by first | exact nin_nil | exact all_nil | ((repeat (first | exact .head _ | refine .tail _ ?_)); done) | simp)
  have offL := Z.offg Ln (by first | exact nin_nil | exact all_nil | ((repeat (first | exact .head _ | refine .tail _ ?_)); done) | simp)
  iterate 12 walk1
  rename Fr g L _ _ => F1
  rename News g L _ own => N1
  refine line_call X0 T0 Z.H (Z.sub F1 N1 fun _ h => h) (Mine.room hdp) (Mine.room hun) I hWL hdL (hoff Ln (by first | exact nin_nil | exact all_nil | ((repeat (first | exact .head _ | refine .tail _ ?_)); done) | simp)) DL fun la v1 h1 tk1 P1 D1 hlp => ?_
  refine Z.backK F1 N1 P1 (by first | exact Mine.nin1 (offL) | exact Mine.all1 (offL) | simpa using offL) (by first | exact Mine.nin1 (DL.alive) | exact Mine.all1 (DL.alive) | simpa using DL.alive) ?_
  intro own1 mm_ Z1  F2  N2
  (try (refine Mine.wp_let ?_; intro sQ73_))
  have hdead : ∀ {x : Addr} {o : Obj}, v.get? x = some o → lp = none → x ∉ lineAll (some la) := fun {x o} e q hx => by
    rcases hlp with q' | ⟨_, _, hno⟩
    · rw [q] at q'; cases q'
    · have e1 := Z.sub F1 N1 (fun _ h => h) _ _ e
      have e2 := hno x hx
      (try dsimp only at e2)
      rw [e1] at e2; cases e2
  have hdisj : W ∉ lineAll (some la) ∧ d ∉ lineAll (some la) ∧ C ∉ lineAll (some la) ∧ Ln ∉ lineAll (some la) ∧ (lineAll (some la)).Nodup := by
    rcases hlp with q | ⟨q, hnd, hno⟩
    · subst q; exact ⟨hWl, hdl, hCl, hLl, hll⟩
    · obtain ⟨o, ho⟩ := D.alive
      obtain ⟨o2, ho2⟩ := DL.alive
      exact ⟨hdead I.at_ q, hdead (show v.get? d = some _ from I.dict) q, hdead ho q, hdead ho2 q, hnd⟩
  refine Mine.byv fun P_ kP_ => ?_
  obtain ⟨jW, jd, jC, jL, jn⟩ := hdisj
  refine kP_ ?_
  clear kP_ P_
  have joff : ∀ x ∈ [la.S, la.Rv], g.get? x = none := fun x hx => by
    rcases hlp with q | ⟨q, hnd, hno⟩
    · subst q; exact Z.offg x (by simp only [List.cons_append, List.nil_append, List.mem_cons]; exact .inr (.inr hx))
    · cases e : g.get? x with
      | none => rfl
      | some o =>
        have e1 := F1.keep _ _ e
        have e2 := hno x (.tail _ (.tail _ hx))
        (try dsimp only at e2)
        rw [e1] at e2; cases e2
  have hfr : lp = some la ∨ (lp = none ∧ ∀ x ∈ lineAll (some la), s.heap.get? x = none) := by
    rcases hlp with q | ⟨q, hnd, hno⟩
    · exact .inl q
    · refine .inr ⟨q, fun x hx => none_old Z F1 (fun hx2 => ?_) (hno x hx)⟩
      obtain ⟨o, ho⟩ := hal x hx2
      exact hdead ho q hx
  have DC1 := D.keeps P1.keeps (by first | exact Mine.nin1 (hCL) | exact Mine.all1 (hCL) | simpa using hCL) DL.noTup
  simp only [lineAll, List.mem_cons, List.not_mem_nil, or_false, not_or, List.nodup_cons, not_false_eq_true, List.nodup_nil, and_true] at jW jd jC jL jn
  refine Mine.byv fun P_ kP_ => ?_
  obtain ⟨jC1, jC2, jC3, jC4⟩ := jC
  obtain ⟨jL1, jL2, jL3, jL4⟩ := jL
  obtain ⟨⟨jx1, jx2, jx3⟩, ⟨jd1, jd2⟩, jSR⟩ := jn
  refine kP_ ?_
  clear kP_ P_
  have I1 := instPost I P1 (by first | exact Mine.nin1 (hWL) | exact Mine.all1 (hWL) | simpa using hWL) (fun a e => Mine.dict_nin e (by first | exact Mine.nin1 (hdL) | exact Mine.all1 (hdL) | simpa using hdL))
  (try clear F1); (try clear N1); (try clear F); (try clear N)
  iterate 14 walk1
  rename Fr g L _ _ => F3
  rename News g L _ own1 => N3
  refine told_call X0 T0 Z1.H (Z1.sub F3 N3 fun _ h => h) (Mine.room hdp) (Mine.room hun) I1 hWC hdC (hoff C (by first | exact nin_nil | exact all_nil | ((repeat (first | exact .head _ | refine .tail _ ?_)); done) | simp)) DC1 (by (first | exact ar220 hn | lia)) (by have := ha.short; (first | exact ar28 this | lia)) fun one c1 v2 h2 tk2 P2 D2 hone hp2 => ?_
  refine Z1.backK F3 N3 P2 (by first | exact Mine.nin1 (offC) | exact Mine.all1 (offC) | simpa using offC) (by first | exact Mine.nin1 (DC1.alive) | exact Mine.all1 (DC1.alive) | simpa using DC1.alive) ?_
  intro own2 mm_ Z2  F4  N4
  (try (refine Mine.wp_let ?_; intro sQ74_))
  have I2 := instPost I1 P2 (by first | exact Mine.nin1 (hWC) | exact Mine.all1 (hWC) | simpa using hWC) (fun a e => Mine.dict_nin e (by first | exact Mine.nin1 (hdC) | exact Mine.all1 (hdC) | simpa using hdC))
  have L2 := D1.2.2.keeps P2.keeps (by first | exact Mine.nin1 (Ne.symm jC1) | exact Mine.all1 (Ne.symm jC1) | simpa using Ne.symm jC1) (by first | exact Mine.nin1 (Ne.symm jC2) | exact Mine.all1 (Ne.symm jC2) | simpa using Ne.symm jC2) (by first | exact Mine.nin1 (Ne.symm jC3) | exact Mine.all1 (Ne.symm jC3) | simpa using Ne.symm jC3) (by first | exact Mine.nin1 (Ne.symm jC4) | exact Mine.all1 (Ne.symm jC4) | simpa using Ne.symm jC4)
  have K2 := D1.2.1.at fun o e => P2.keeps _ _ (by first | exact Mine.nin1 (Ne.symm hCL) | exact Mine.all1 (Ne.symm hCL) | simpa using Ne.symm hCL) e
  have hB : cOf (upd cm a c1) b = cOf cm b := by rw [cOf_upd, if_neg (Ne.symm hab)]
  (try clear F2); (try clear N2); (try clear F3); (try clear N3)
  iterate 9 walk1
  refine told_call X0 T0 Z2.H (Z2.sub F4 N4 fun _ h => h) (Mine.room hdp) (Mine.room hun) I2 hWC hdC (hoff C (by first | exact nin_nil | exact all_nil | ((repeat (first | exact .head _ | refine .tail _ ?_)); done) | simp)) D2 (by (first | exact ar221 hn | lia)) (by rw [hB]; have := hb.short; (first | exact ar28 this | lia)) fun other c2 v3 h3 tk3 P3 D3 hoth hp3 => ?_
  refine Z2.backK F4 N4 P3 (by first | exact Mine.nin1 (offC) | exact Mine.all1 (offC) | simpa using offC) (by first | exact Mine.nin1 (D2.alive) | exact Mine.all1 (D2.alive) | simpa using D2.alive) ?_
  intro own3 mm_ Z3  F5  N5
  (try (refine Mine.wp_let ?_; intro sQ75_))
  rw [hB] at hoth hp3
  have I3 := instPost I2 P3 (by first | exact Mine.nin1 (hWC) | exact Mine.all1 (hWC) | simpa using hWC) (fun a e => Mine.dict_nin e (by first | exact Mine.nin1 (hdC) | exact Mine.all1 (hdC) | simpa using hdC))
  have L3 := L2.keeps P3.keeps (by first | exact Mine.nin1 (Ne.symm jC1) | exact Mine.all1 (Ne.symm jC1) | simpa using Ne.symm jC1) (by first | exact Mine.nin1 (Ne.symm jC2) | exact Mine.all1 (Ne.symm jC2) | simpa using Ne.symm jC2) (by first | exact Mine.nin1 (Ne.symm jC3) | exact Mine.all1 (Ne.symm jC3) | simpa using Ne.symm jC3) (by first | exact Mine.nin1 (Ne.symm jC4) | exact Mine.all1 (Ne.symm jC4) | simpa using Ne.symm jC4)
  have K3 := K2.at fun o e => P3.keeps _ _ (by first | exact Mine.nin1 (Ne.symm hCL) | exact Mine.all1 (Ne.symm hCL) | simpa using Ne.symm hCL) e
  have hone3 := hone.keeps P3.keeps D2.noTup
  (try clear F4); (try clear N4)
  refine Mine.byv fun P_ kP_ => ?_
  obtain ⟨⟨u1, u2, u3, u4, room, e, IL⟩, ⟨vs, kS, eS, lS⟩, ⟨us, kR, eR, lR⟩⟩ := L3
  refine kP_ ?_
  clear kP_ P_
  iterate 17 walk1
  rename Fr g L _ _ => F6
  rename News g L _ (_ :: own3) => N6
  refine Z3.growK F6 N6 (fun p hp => .tail _ hp) fun v3b  Z3b  kb1  kb2  kb3 => ?_
  replace eS := kb1 _ _ eS
  replace eR := kb1 _ _ eR
  replace IL := InstAt.keeps' IL (kb1.keeps []) (by first | exact nin_nil | exact all_nil | ((repeat (first | exact .head _ | refine .tail _ ?_)); done) | simp) (by first | exact nin_nil | exact all_nil | ((repeat (first | exact .head _ | refine .tail _ ?_)); done) | simp)
  replace I3 := InstAt.keeps' I3 (kb1.keeps []) (by first | exact nin_nil | exact all_nil | ((repeat (first | exact .head _ | refine .tail _ ?_)); done) | simp) (by first | exact nin_nil | exact all_nil | ((repeat (first | exact .head _ | refine .tail _ ?_)); done) | simp)
  replace K3 := K3.keep kb1
  replace D3 := D3.up kb1
  replace hone3 := hone3.up kb1
  replace hoth := hoth.up kb1
  refine list_method eS kb2 ?_
  iterate 4 walk1
  refine list_append_post eS kb2 (by (first | exact ar85 hm lS | lia)) fun v4 h4 k4 P4 eS4 => ?_
  have nS := noTup_list eS
  refine Z3b.backK F6 N6 P4 (by first | exact Mine.nin1 (joff la.S (by first | exact nin_nil | exact all_nil | ((repeat (first | exact .head _ | refine .tail _ ?_)); done) | simp)) | exact Mine.all1 (joff la.S (by first | exact nin_nil | exact all_nil | ((repeat (first | exact .head _ | refine .tail _ ?_)); done) | simp)) | simpa using joff la.S (by first | exact nin_nil | exact all_nil | ((repeat (first | exact .head _ | refine .tail _ ?_)); done) | simp)) (by first | exact Mine.nin1 (⟨_, eS⟩) | exact Mine.all1 (⟨_, eS⟩) | simpa using ⟨_, eS⟩) ?_
  intro own4 mm_ Z4  F7  N7
  (try (refine Mine.wp_let ?_; intro sQ76_))
  have eR4 := P4.keeps _ _ (by first | exact Mine.nin1 (Ne.symm jSR) | exact Mine.all1 (Ne.symm jSR) | simpa using Ne.symm jSR) eR
  have IL4 := instPost IL P4 (by first | exact Mine.nin1 (jx2) | exact Mine.all1 (jx2) | simpa using jx2) (fun a e => Mine.dict_nin e (by first | exact Mine.nin1 (jd1) | exact Mine.all1 (jd1) | simpa using jd1))
  have I4 := instPost I3 P4 (by first | exact Mine.nin1 (jW.2.2.1) | exact Mine.all1 (jW.2.2.1) | simpa using jW.2.2.1) (fun a e => Mine.dict_nin e (by first | exact Mine.nin1 (jd.2.2.1) | exact Mine.all1 (jd.2.2.1) | simpa using jd.2.2.1))
  have K4 := K3.at fun o e => P4.keeps _ _ (by first | exact Mine.nin1 (jL3) | exact Mine.all1 (jL3) | simpa using jL3) e
  have D4 := D3.keeps P4.keeps (by first | exact Mine.nin1 (jC3) | exact Mine.all1 (jC3) | simpa using jC3) nS
  have hone4 := hone3.keeps P4.keeps nS
  have hoth4 := hoth.keeps P4.keeps nS
  (try clear F5); (try clear N5); (try clear F6); (try clear N6)
  iterate 7 walk1
  rename Fr g L _ _ => F8
  rename News g L _ own4 => N8
  refine list_method eR4 (Z4.sub F8 N8 fun _ h => h) ?_
  iterate 4 walk1
  refine list_append_post eR4 (Z4.sub F8 N8 fun _ h => h) (by (first | exact ar85 hm lR | lia)) fun v5 h5 k5 P5 eR5 => ?_
  have nR := noTup_list eR4
  refine Z4.backK F8 N8 P5 (by first | exact Mine.nin1 (joff la.Rv (by first | exact nin_nil | exact all_nil | ((repeat (first | exact .head _ | refine .tail _ ?_)); done) | simp)) | exact Mine.all1 (joff la.Rv (by first | exact nin_nil | exact all_nil | ((repeat (first | exact .head _ | refine .tail _ ?_)); done) | simp)) | simpa using joff la.Rv (by first | exact nin_nil | exact all_nil | ((repeat (first | exact .head _ | refine .tail _ ?_)); done) | simp)) (by first | exact Mine.nin1 (⟨_, eR4⟩) | exact Mine.all1 (⟨_, eR4⟩) | simpa using ⟨_, eR4⟩) ?_
  intro own5 mm_ Z5  F9  N9
  (try (refine Mine.wp_let ?_; intro sQ77_))
  have eS5 := P5.keeps _ _ (by first | exact Mine.nin1 (jSR) | exact Mine.all1 (jSR) | simpa using jSR) eS4
  have IL5 := instPost IL4 P5 (by first | exact Mine.nin1 (jx3) | exact Mine.all1 (jx3) | simpa using jx3) (fun a e => Mine.dict_nin e (by first | exact Mine.nin1 (jd2) | exact Mine.all1 (jd2) | simpa using jd2))
  have I5 := instPost I4 P5 (by first | exact Mine.nin1 (jW.2.2.2) | exact Mine.all1 (jW.2.2.2) | simpa using jW.2.2.2) (fun a e => Mine.dict_nin e (by first | exact Mine.nin1 (jd.2.2.2) | exact Mine.all1 (jd.2.2.2) | simpa using jd.2.2.2))
  have K5 := K4.at fun o e => P5.keeps _ _ (by first | exact Mine.nin1 (jL4) | exact Mine.all1 (jL4) | simpa using jL4) e
  have D5 := D4.keeps P5.keeps (by first | exact Mine.nin1 (jC4) | exact Mine.all1 (jC4) | simpa using jC4) nR
  have hone5 := hone4.keeps P5.keeps nR
  have hoth5 := hoth4.keeps P5.keeps nR
  have T1 := tick_spec ha ha4 hp2
  have T2 := tick_spec hb hb4 hp3
  have e2a : cOf (upd (upd cm a c1) b c2) a = c1 := by rw [cOf_upd, if_neg hab, cOf_upd, if_pos rfl]
  (try clear F7); (try clear N7); (try clear F8); (try clear N8)
  iterate 13 walk1
  refine learn_call X0 T0 Z5.H (Z5.sub F9 N9 fun _ h => h) (Mine.room hdp) (Mine.room hun) I5 hWC hdC (hoff C (by first | exact nin_nil | exact all_nil | ((repeat (first | exact .head _ | refine .tail _ ?_)); done) | simp)) hoth5 D5 (by (first | exact ar222 hn | lia)) (by rw [e2a]; have := T1.1.short; have := hb.short; (first | exact ar32 (by assumption) this | lia)) fun c3 v6 h6 tk6 P6 D6 hp6 => ?_
  refine Z5.backK F9 N9 P6 (by first | exact Mine.nin1 (offC) | exact Mine.all1 (offC) | simpa using offC) (by first | exact Mine.nin1 (D5.alive) | exact Mine.all1 (D5.alive) | simpa using D5.alive) ?_
  intro own6 mm_ Z6  F10  N10
  (try (refine Mine.wp_let ?_; intro sQ78_))
  have nC := D5.noTup
  have I6 := instPost I5 P6 (by first | exact Mine.nin1 (hWC) | exact Mine.all1 (hWC) | simpa using hWC) (fun a e => Mine.dict_nin e (by first | exact Mine.nin1 (hdC) | exact Mine.all1 (hdC) | simpa using hdC))
  have LL6 : LineAt w v6 la (m + 1) := LineAt.keeps (m := m + 1) ⟨⟨u1, u2, u3, u4, room, e, IL5⟩, ⟨_, _, eS5, by simp; (first | exact ar1 lS | lia)⟩, ⟨_, _, eR5, by simp; (first | exact ar1 lR | lia)⟩⟩ P6.keeps (by first | exact Mine.nin1 (Ne.symm jC1) | exact Mine.all1 (Ne.symm jC1) | simpa using Ne.symm jC1) (by first | exact Mine.nin1 (Ne.symm jC2) | exact Mine.all1 (Ne.symm jC2) | simpa using Ne.symm jC2) (by first | exact Mine.nin1 (Ne.symm jC3) | exact Mine.all1 (Ne.symm jC3) | simpa using Ne.symm jC3) (by first | exact Mine.nin1 (Ne.symm jC4) | exact Mine.all1 (Ne.symm jC4) | simpa using Ne.symm jC4)
  have K6 := K5.at fun o e => P6.keeps _ _ (by first | exact Mine.nin1 (Ne.symm hCL) | exact Mine.all1 (Ne.symm hCL) | simpa using Ne.symm hCL) e
  have hone6 := hone5.keeps P6.keeps nC
  have e3b : cOf (upd (upd (upd cm a c1) b c2) a c3) b = c2 := by rw [cOf_upd, if_neg (Ne.symm hab), cOf_upd, if_pos rfl]
  rw [e2a] at hp6
  (try clear F9); (try clear N9)
  iterate 13 walk1
  refine learn_call X0 T0 Z6.H (Z6.sub F10 N10 fun _ h => h) (Mine.room hdp) (Mine.room hun) I6 hWC hdC (hoff C (by first | exact nin_nil | exact all_nil | ((repeat (first | exact .head _ | refine .tail _ ?_)); done) | simp)) hone6 D6 (by (first | exact ar223 hn | lia)) (by rw [e3b]; have := T2.1.short; have := ha.short; (first | exact ar32 (by assumption) this | lia)) fun c4 v7 h7 tk7 P7 D7 hp7 => ?_
  refine Z6.backK F10 N10 P7 (by first | exact Mine.nin1 (offC) | exact Mine.all1 (offC) | simpa using offC) (by first | exact Mine.nin1 (D6.alive) | exact Mine.all1 (D6.alive) | simpa using D6.alive) ?_
  intro own7 mm_ Z7  F11  N11
  (try (refine Mine.wp_let ?_; intro sQ79_))
  rw [e3b] at hp7
  have LL7 := LL6.keeps P7.keeps (by first | exact Mine.nin1 (Ne.symm jC1) | exact Mine.all1 (Ne.symm jC1) | simpa using Ne.symm jC1) (by first | exact Mine.nin1 (Ne.symm jC2) | exact Mine.all1 (Ne.symm jC2) | simpa using Ne.symm jC2) (by first | exact Mine.nin1 (Ne.symm jC3) | exact Mine.all1 (Ne.symm jC3) | simpa using Ne.symm jC3) (by first | exact Mine.nin1 (Ne.symm jC4) | exact Mine.all1 (Ne.symm jC4) | simpa using Ne.symm jC4)
  have K7 := K6.at fun o e => P7.keeps _ _ (by first | exact Mine.nin1 (Ne.symm hCL) | exact Mine.all1 (Ne.symm hCL) | simpa using Ne.symm hCL) e
  have S3 := joinL_spec T1.1 hb hp6
  have S4 := joinL_spec T2.1 ha hp7
  have eU : upd (upd (upd (upd cm a c1) b c2) a c3) b c4 = upd (upd cm a c3) b c4 := by
    funext y
    unfold upd
    by_cases y1 : y = b
    · simp [y1]
    · by_cases y2 : y = a
      · simp [y2]
      · simp [y1, y2]
  rw [eU] at D7
  (try clear F10); (try clear N10)
  k_steps
  (try k_steps)
  show Q .none _
  (try k_steps)
  refine ret c3 c4 la v7 _ _ (Z7.post F11 N11) (D7.mono (by (first | exact ar196 | lia))) ⟨DL.1, K7, LL7⟩ ?_ hfr ⟨S3.1, fun x => by rw [S3.2, T1.2]⟩ ⟨S4.1, fun x => by rw [S4.2, T2.2]⟩
  simp only [lineAll, List.mem_cons, List.not_mem_nil, or_false, not_or, List.nodup_cons, not_false_eq_true, List.nodup_nil, and_true]
  exact ⟨⟨hWd, hWC, hWL, jW⟩, ⟨hdC, hdL, jd⟩, ⟨hCL, jC1, jC2, jC3, jC4⟩, ⟨jL1, jL2, jL3, jL4⟩, ⟨jx1, jx2, jx3⟩, ⟨jd1, jd2⟩, jSR⟩
end
section
variable {prog : Program} {w : World} {A : Around} {E : Value → Shared → Prop} {s : Shared} {l d : Addr}
theorem notIn_list {xs : List Value} {k : Nat} {ds : List Dat} {x : Value} {dx : Dat} {Q : Value → Shared → Prop} (e : s.heap.get? l = some (PySem.W.listOf xs.toArray k)) (hd : DatsH s.heap xs ds) (hx : DatH s.heap x dx) (ok : ∀ d ∈ ds, kqdOk 8 d = true) (okx : kqdOk 8 dx = true) (hu : A.units + 64 < cLine)
    (h : ∀ b : Bool, (b = true ↔ dx ∉ ds) → Q (.bool b) s) : wpAny (model prog w) A (compareOp .NotIn x (.ref l)) Q E s := by
  refine Mine.byv fun P_ kP_ => ?_
  obtain ⟨l1, a1, b1⟩ := hd
  obtain ⟨l2, a2, b2⟩ := hx
  refine kP_ ?_
  clear kP_ P_
  have N : News {} s.heap.objs.size s.heap ((l, PySem.W.listOf xs.toArray k) :: (l1 ++ l2)) := fun p hp => by
    have e' : s.heap.get? p.1 = some p.2 := by
      rcases Mine.mem_sym hp with rfl | hp
      · exact e
      · exact (List.mem_append.mp hp).elim (fun h => (a1 p h).1) fun h => (a2 p h).1
    exact ⟨e', Nat.ne_of_lt (Heap.lt_size e'), rfl⟩
  refine kqd_notIn N (.head _) rfl rfl b1 (fun p hp => .tail _ (List.mem_append_left _ hp)) b2 (fun p hp => .tail _ (List.mem_append_right _ hp)) ok okx hu ?_
  exact h _ (by by_cases q : dx ∈ ds <;> simp [q])
theorem isIn_list {xs : List Value} {k : Nat} {ds : List Dat} {x : Value} {dx : Dat} {Q : Value → Shared → Prop} (e : s.heap.get? l = some (PySem.W.listOf xs.toArray k)) (hd : DatsH s.heap xs ds) (hx : DatH s.heap x dx) (ok : ∀ d ∈ ds, kqdOk 8 d = true) (okx : kqdOk 8 dx = true) (hu : A.units + 64 < cLine)
    (h : ∀ b : Bool, (b = true ↔ dx ∈ ds) → Q (.bool b) s) : wpAny (model prog w) A (compareOp .In x (.ref l)) Q E s := by
  refine Mine.byv fun P_ kP_ => ?_
  obtain ⟨l1, a1, b1⟩ := hd
  obtain ⟨l2, a2, b2⟩ := hx
  refine kP_ ?_
  clear kP_ P_
  have N : News {} s.heap.objs.size s.heap ((l, PySem.W.listOf xs.toArray k) :: (l1 ++ l2)) := fun p hp => by
    have e' : s.heap.get? p.1 = some p.2 := by
      rcases Mine.mem_sym hp with rfl | hp
      · exact e
      · exact (List.mem_append.mp hp).elim (fun h => (a1 p h).1) fun h => (a2 p h).1
    exact ⟨e', Nat.ne_of_lt (Heap.lt_size e'), rfl⟩
  refine kqd_isIn N (.head _) rfl rfl b1 (fun p hp => .tail _ (List.mem_append_left _ hp)) b2 (fun p hp => .tail _ (List.mem_append_right _ hp)) ok okx hu ?_
  exact h _ (by by_cases q : dx ∈ ds <;> simp [q])
/-- the keys of an int dict, sorted -/
theorem IntD.sortedKeys {c : List (Int × Int)} (x : IntD prog w s.heap d c) (lo : (d == sysModules) = false) (hA : A.handled = none) (hu : A.units + 20 < cLine) (hsz : c.length ≤ sizeLine) {Q : Value → Shared → Prop}
    (h : ∀ l out (ks : List Int) k h' tk, Sub s.heap h' → s.heap.get? l = none → h'.get? l = some (seqObj "list" out.toArray k) → IntsAre out ks → ks.Perm (c.map (·.1)) → Q (.ref l) { s with heap := h', toks := tk }) :
    wpAny (model prog w) A (call (.builtin "sorted") [.ref d]) Q E s := by
  refine Mine.byv fun P_ kP_ => ?_
  obtain ⟨kvs, ⟨o, es, ep, ho, hc, hdt, hk, hp, hn⟩, hi⟩ := x
  refine kP_ ?_
  clear kP_ P_
  have keys : IntsAre (es.toList.map (·.key)) (kvs.map (·.1)) := by
    clear hn hdt hi hk
    generalize es.toList = l at hp
    induction hp with
    | nil => exact .nil
    | @cons e kv es' kvs' h1 _ _ ih =>
      have : ∃ t, e.key = .int kv.1 t := by
        cases hkey : e.key <;> rw [hkey] at h1 <;> simp [intKind, Value.isInt] at h1
        exact ⟨_, by rw [h1]⟩
      obtain ⟨t, ht⟩ := this
      rw [List.map_cons, List.map_cons, ht]
      exact .cons _ _ ih
  have col : wpAny (model prog w) A.in1 (collect (.ref d)) (fun us s₁ => ∃ h₁ tk, s₁ = { s with heap := h₁, toks := tk } ∧ Sub s.heap h₁ ∧ DatsH h₁ us ((c.map (·.1)).map Dat.int)) E s := by
    refine raw_collect lo hA ⟨o, ho, hc, hdt⟩ (by rw [← Array.length_toList, hp.length, hi.length]; exact hsz) fun h' tk k => ⟨h', tk, rfl, k, ?_⟩
    rw [← hi.keys]
    exact DatsH.ofInts h' keys
  have hs : Sortable 3 ((c.map (·.1)).map Dat.int) := .inl fun d hd => by
    obtain ⟨i, _, rfl⟩ := List.mem_map.mp hd
    exact ⟨i, rfl⟩
  refine sorted_any (n := 3) (by (first | exact ar29 hu | lia)) hs (by rw [List.length_map, List.length_map]; exact hsz) col fun l out ds' k h' tk a1 a2 a3 a4 a5 _ => ?_
  obtain ⟨ks, rfl, hpm⟩ := perm_map (f := Dat.int) (g := unInt) (fun x => rfl) a5
  exact h l out ks k h' tk a1 a2 a3 a4.ints hpm
/-- the keys of a dict of paths, sorted -/
theorem rows_sorted {xs : List (List Int × Addr × Value)} (x : s.heap.DictOfH (tupleKind (intKind prog w)) d xs) (hx : ∀ x ∈ xs, DatH s.heap (.ref x.2.1) (pathD x.1)) (lo : (d == sysModules) = false) (hA : A.handled = none) (hu : A.units + 20 < cLine) (hsz : xs.length ≤ sizeLine) {Q : Value → Shared → Prop}
    (h : ∀ l out (ks : List (List Int)) k h' tk, Sub s.heap h' → s.heap.get? l = none → h'.get? l = some (seqObj "list" out.toArray k) → DatsH h' out (ks.map pathD) → ks.Perm (xs.map (·.1)) → Q (.ref l) { s with heap := h', toks := tk }) :
    wpAny (model prog w) A (call (.builtin "sorted") [.ref d]) Q E s := by
  refine Mine.byv fun P_ kP_ => ?_
  obtain ⟨o, es, ep, ho, hc, hdt, he, hk, hn⟩ := x
  refine kP_ ?_
  clear kP_ P_
  have keys : DatsH s.heap (es.toList.map (·.key)) ((xs.map (·.1)).map pathD) := by
    rw [he]
    clear he hn hsz hk h
    induction xs with
    | nil => exact DatsH.nil _
    | cons x xs ih => exact DatsH.cons (hx x (.head _)) (ih fun y hy => hx y (.tail _ hy))
  have hl : es.size = xs.length := by rw [← Array.length_toList, he, List.length_map]
  have col : wpAny (model prog w) A.in1 (collect (.ref d)) (fun us s₁ => ∃ h₁ tk, s₁ = { s with heap := h₁, toks := tk } ∧ Sub s.heap h₁ ∧ DatsH h₁ us ((xs.map (·.1)).map pathD)) E s :=
    raw_collect lo hA ⟨o, ho, hc, hdt⟩ (by rw [hl]; exact hsz) fun h' tk k => ⟨h', tk, rfl, k, keys.up k⟩
  have hs : Sortable 3 ((xs.map (·.1)).map pathD) := .inr ⟨fun d hd => by
      obtain ⟨i, _, rfl⟩ := List.mem_map.mp hd
      simp [pathD, kqdOk], fun d hd => by
      obtain ⟨i, _, rfl⟩ := List.mem_map.mp hd
      exact ⟨_, rfl⟩, fun d hd e he => by
      refine Mine.byv fun P_ kP_ => ?_
      obtain ⟨i, _, rfl⟩ := List.mem_map.mp hd
      obtain ⟨j, _, rfl⟩ := List.mem_map.mp he
      refine kP_ ?_
      clear kP_ P_
      exact .tuple (cmpAll_ints i j)⟩
  refine sorted_any (n := 3) (by (first | exact ar29 hu | lia)) hs (by rw [List.length_map, List.length_map]; exact hsz) col fun l out ds' k h' tk a1 a2 a3 a4 a5 _ => ?_
  obtain ⟨ks, rfl, hpm⟩ := perm_map (f := pathD) (g := unPath) unPath_pathD a5
  exact h l out ks k h' tk a1 a2 a3 a4 hpm
end
section
noncomputable def RacesAt (h : Heap) (R : Addr) (rs : List Dat) : Prop := ∃ vs k, h.get? R = some (PySem.W.listOf vs.toArray k) ∧ DatsH h vs rs
theorem RacesAt.noTup {h : Heap} {R : Addr} {rs : List Dat} (x : RacesAt h R rs) : NoTup h [R] := let ⟨_, _, e, _⟩ := x; noTup_list e
theorem RacesAt.keeps {h h' : Heap} {R : Addr} {rs : List Dat} {fp : List Addr} (x : RacesAt h R rs) (k : Keeps fp h h') (hR : R ∉ fp) (nt : NoTup h fp) : RacesAt h' R rs := let ⟨vs, n, e, hd⟩ := x; ⟨vs, n, k _ _ hR e, hd.keeps k nt⟩
theorem RacesAt.up {h h' : Heap} {R : Addr} {rs : List Dat} (x : RacesAt h R rs) (k : Sub h h') : RacesAt h' R rs := x.keeps (k.keeps []) (by first | exact nin_nil | exact all_nil | ((repeat (first | exact .head _ | refine .tail _ ?_)); done) | simp) (fun a ha => by cases ha)
theorem RacesAt.alive {h : Heap} {R : Addr} {rs : List Dat} (x : RacesAt h R rs) : ∃ o, h.get? R = some o := let ⟨_, _, e, _⟩ := x; ⟨_, e⟩
noncomputable def locD (num : Int) (path : List Int) : Dat := .tuple [.int num, pathD path]
noncomputable def rowD (g num : Int) (path : List Int) (word : Str) (o : Int) (er : Str) : Dat := .tuple [locD num path, .tuple [.int o, .str er], .tuple [.int g, .str word]]
theorem word_ok {x : Str} (h : x = readW ∨ x = writeW) (n : Nat) : kqdOk n (.str x) = true := by
  have h1 : PyData.strOk x = true := by rcases h with rfl | rfl <;> decide +kernel
  cases n <;> simp [kqdOk, h1]
theorem rowD_ok {g num : Int} {path : List Int} {word : Str} {o : Int} {er : Str} (hw : word = readW ∨ word = writeW) (he : er = readW ∨ er = writeW) : kqdOk 8 (rowD g num path word o er) = true := by
  have h1 : PyData.strOk word = true := by rcases hw with rfl | rfl <;> decide +kernel
  have h2 : PyData.strOk er = true := by rcases he with rfl | rfl <;> decide +kernel
  simp [rowD, locD, pathD, kqdOk, h1, h2]
theorem intsAre_get {vs : List Value} {ns : List Int} (h : IntsAre vs ns) {i : Nat} {v : Value} (e : vs[i]? = some v) : ∃ o t, v = .int o t ∧ ns[i]? = some o := by
  induction h generalizing i with
  | nil => simp at e
  | cons n t r ih =>
    cases i with
    | zero => simp at e; subst e; exact ⟨n, t, rfl, rfl⟩
    | succ i => exact ih (by first | exact Mine.nin1 (e) | exact Mine.all1 (e) | simpa using e)
theorem upd_same {α : Type} {f : Int → Option α} {x : Int} {a : α} (h : f x = some a) : upd f x a = f := funext fun y => by
  unfold upd
  split
  · rename_i e; rw [e, h]
  · rfl
section
variable {h₀ s0 v0 g v h h' : Heap} {fp fp1 : List Addr} {L : Addr} {own : List (Addr × Obj)} {m : Str → Option Value}
/-- an iterator in the ledger, kept beside the views -/
theorem iter_back {vs v' : Heap} {own' : List (Addr × Obj)} {I : Addr} {oI : Obj} (Z : Ctx h₀ s0 v0 fp g L own vs) (Z' : Ctx h₀ s0 v0 fp g L own' v') (P : Post h vs v' h' fp1) (hI : h.get? I = some oI ∧ I ≠ L ∧ g.get? I = none) (hno : ∀ q ∈ own, q.1 ≠ I)
    (hfp : I ∉ fp1) (nt : ¬ IsTupO oI) (N' : News g L h' own') : News g L h' ((I, oI) :: own') ∧ ∀ q ∈ own', q.1 ≠ I := by
  have e' := P.heap _ _ hfp hI.1
  have vn : vs.get? I = none := by
    cases q : vs.get? I with
    | none => rfl
    | some o =>
      rcases (Z.look I o q).2 with e | e
      · rw [hI.2.2] at e; cases e
      · exact absurd rfl (hno _ e)
  refine ⟨fun p hp => ?_, fun q hq e => ?_⟩
  · rcases Mine.mem_sym hp with rfl | hp
    · exact ⟨e', hI.2.1, hI.2.2⟩
    · exact N' p hp
  · have e1 := Z'.ownv q hq
    rw [e] at e1
    rcases P.fresh I _ e1 with ⟨o, e2⟩ | e2 | e2
    · rw [vn] at e2; cases e2
    · rw [hI.1] at e2; cases e2
    · have := P.sub _ _ e1
      rw [e'] at this; cases this
      exact nt e2
end
theorem iter_noTup {oI : Obj} (h : oI.cls = .type "tuple_iterator" ∨ oI.cls = .type "list_iterator" ∨ oI.cls = .type "range_iterator") : ¬ IsTupO oI := fun hh => by
  rcases h with h | h | h <;> rw [hh.1] at h <;> exact absurd h (by first | exact nin_nil | exact all_nil | ((repeat (first | exact .head _ | refine .tail _ ?_)); done) | simp)
theorem IntD.tail {prog : Program} {w : World} {A : Around} {E : Value → Shared → Prop} {s : Shared} {d : Addr} {c : List (Int × Int)} (x : IntD prog w s.heap d c) {value slice : Expr} {k : Int} {t : Tok} {Q : Value → Shared → Prop} (hk : ∃ p ∈ c, p.1 = k) (h : ∀ t, Q (.int (cnt c k) t) { s with toks := s.toks + 1 })
    (hs : subscripted slice false (.ref d) (.int k t) = operate [.ref d, .int k t] (PySem.getItem (.ref d) (.int k t)) := by with_unfolding_all rfl) : wpAny (model prog w) A (subscriptTail value slice (.ref d) (.int k t)) Q E s := by
  have hT : s.TypeIs (.ref d) "dict" := by
    obtain ⟨kvs, a, _⟩ := x
    exact a.typeIs
  exact tail_any hT slot_dict_getitem.lookup (x.getItem hk h) hs
/-- how the rows told grow by one turn -/
theorem mem_more {rs rsi : List Dat} {ks : List Int} {i : Nat} {o : Int} {P : Int → Prop} {f : Int → Dat} (hko : ks[i]? = some o) (hmem : ∀ d, d ∈ rsi ↔ d ∈ rs ∨ ∃ o ∈ ks.take i, P o ∧ d = f o) {rsj : List Dat}
    (h : ∀ d, d ∈ rsj ↔ d ∈ rsi ∨ (P o ∧ d = f o)) : ∀ d, d ∈ rsj ↔ d ∈ rs ∨ ∃ o ∈ ks.take (i + 1), P o ∧ d = f o := by
  intro d
  rw [h d, hmem d, List.take_add_one, hko]
  constructor
  · intro hp0_
    obtain ((h | ⟨o', h1, h2⟩) | h) := hp0_
    · exact .inl h
    · exact .inr ⟨o', List.mem_append_left _ h1, h2⟩
    · exact .inr ⟨o, by simp, h⟩
  · intro hp0_
    obtain (h | ⟨o', h1, h2⟩) := hp0_
    · exact .inl (.inl h)
    · rcases List.mem_append.mp h1 with h1 | h1
      · exact .inl (.inr ⟨o', h1, h2⟩)
      · have : o' = o := by simpa using h1
        subst this
        exact .inr h2
local macro_rules | `(tactic| walk_at "exec For Name Call cons nil") => `(tactic| k_dflt (refine' for_seqL rfl ?_))
local macro_rules | `(tactic| walk_at "exec For") => `(tactic| k_dflt (refine' for_seqL rfl ?_))
inductive CmpJ (w : World) (h₀ s0 v g : Heap) (L C R l : Addr) (out : List Value) (k : Nat) (Cn : Addr) (cs : List (Int × Int)) (n : Nat) (cm : Int → Option (List (Int × Int))) (lv : Value) (num : Int) (path : List Int) (r : Value) (c : List (Int × Int)) (rs : List Dat) (ks : List Int) (gI : Int) (word er : Str) (m0 : Str → Option Value) (i : Nat) (m : Str → Option Value) (own : List (Addr × Obj)) : Prop
  | mk (vi : Heap) (rsi : List Dat) (Z : Ctx h₀ s0 v [C, R] g L own vi) (hl : vi.get? l = some (seqObj "list" out.toArray k)) (DC : IntD PG w vi Cn cs) (D : CM w vi C (n + 1) cm) (DR : RacesAt vi R rsi) (hlv : DatH vi lv (locD num path)) (hr : DatH vi r (clk c))
    (hlen : rsi.length ≤ rs.length + i) (ok : ∀ d ∈ rsi, kqdOk 8 d = true) (nd : rs.Nodup → rsi.Nodup) (mem : ∀ d, d ∈ rsi ↔ d ∈ rs ∨ ∃ o ∈ ks.take i, o ≠ gI ∧ cnt cs o > cnt c o ∧ d = rowD gI num path word o er) (hm : Same ["other", "row"] m m0)
section
variable {p : Program} {loose : List Str} {mg mb : Str → Option Value} {w : World} {dp un : Nat} {fr : Option (List Env)} {gd : Option (List Code)} {h₀ v : Heap} {s : Shared} {Q : Value → Shared → Prop}
theorem compare_call (X : (hd.heap_1 w.params).In h₀) (T : TopRead p loose mg mb h₀) (H : Sub h₀ v) (V : Sub v s.heap) (hdp : dp + 4 < recursionLimit) (hun : un + 100 < cLine)
  {W d C Ln G P R : Addr} {t1 t2 t3 t4 t5 : Tok} (I : InstAt v W (instObj 227 d) 227 (some (watchD w t1 t2 t3 t4 t5 C Ln G P R))) (hWC : W ≠ C) (hdC : d ≠ C) (hWR : W ≠ R) (hdR : d ≠ R) (hCR : C ≠ R) (hoff : h₀.get? C = none) (hoffR : h₀.get? R = none)
  {gI num : Int} {path : List Int} {word er : Str} (hw : word = readW ∨ word = writeW) (he : er = readW ∨ er = writeW) {lv : Value} {tg tw te : Tok} {Cn : Addr} {cs c : List (Int × Int)} {n : Nat} {cm : Int → Option (List (Int × Int))} {rs : List Dat}
  (hlv : DatH v lv (locD num path)) (DCn : IntD PG w v Cn cs) (loC : (Cn == sysModules) = false) (hCnC : Cn ≠ C) (hCnR : Cn ≠ R) (D : CM w v C n cm) (hn : n ≤ 1000) (hcm : cm gI = some c) (DR : RacesAt v R rs) (hrs : rs.length + cs.length ≤ 50000) (ok : ∀ d ∈ rs, kqdOk 8 d = true)
  (ret : ∀ rs' v' h' tk', Post s.heap v v' h' [C, R] → CM w v' C (n + 1) cm → RacesAt v' R rs' → rs'.length ≤ rs.length + cs.length → (∀ d ∈ rs', kqdOk 8 d = true) → (rs.Nodup → rs'.Nodup) →
    (∀ d, d ∈ rs' ↔ d ∈ rs ∨ ∃ o, (∃ k, (o, k) ∈ cs) ∧ o ≠ gI ∧ cnt cs o > cnt c o ∧ d = rowD gI num path word o er) → Q .none {s with heap := h', toks := tk'}) :
  wpAny (model PySem.Challenge.rw_on0014_01.prog w) (Ar dp fr gd un) (call (.ref 224) [.ref W, .int gI tg, lv, .str word tw, .ref Cn, .str er te]) Q (fun _ _ => False) s := by
  have X0 := X
  have T0 := T
  revert X; k_fill; intro X
  refine wpAny_call ?_
  k_dflt (refine' into (f := 224) [C, R] [("self", .ref W), ("goroutine", .int gI tg), ("location", lv), ("word", .str word tw), ("counts", .ref Cn), ("earlier", .str er te)] X T H V ?o1 ?o2 ?k1 ?k2 ?k3 ?k4 ?k5 ?k6 ?k7 ?k8 ?k9 ?_; (case o1 => first | (iterate 2 (refine Mine.all_cons ?_ ?_; first | exact hoff | exact hoffR); exact Mine.all_nil) | simp [hoff, hoffR]); (case o2 => first | (iterate 2 (refine Mine.all_cons ?_ ?_; first | exact D.alive | exact DR.alive); exact Mine.all_nil) | simp [D.alive, DR.alive]); (case k1 => k_is); (case k2 => k_is); (case k3 => first | exact Nat.lt_of_le_of_lt (Nat.le_add_right _ _) hdp | lia); (case k4 => rfl); (case k5 => exact locs rfl); (case k6 => decide); (case k7 => rfl); (case k8 => rfl); (case k9 => rfl))
  intro g L h₁ fr' own A' e_ s1_ m0 Z F N Xg Tg
  have IG : InstAt g W (instObj 227 d) 227 (some (watchD w t1 t2 t3 t4 t5 C Ln G P R)) := InstAt.keeps' I (fun b o n e => Z.hk b o n (V b o e)) (by first | ((repeat' (first | exact nin_nil | exact all_nil | (refine nin_cons ?_ ?_) | (refine all_cons ?_ ?_) | assumption | exact Ne.symm (by assumption))); done) | simp [hWC, hWR]) (fun a e => Mine.dict_nin e (by first | ((repeat' (first | exact nin_nil | exact all_nil | (refine nin_cons ?_ ?_) | (refine all_cons ?_ ?_) | assumption | exact Ne.symm (by assumption))); done) | simp [hdC, hdR]))
  iterate 10 walk1
  refine clock_call X0 T0 Z.H (Z.sub F N fun _ h => h) (Mine.room hdp) (Mine.room hun) I hWC hdC hoff D (by (first | exact ar228 hn | lia)) fun r v1 h1 tk1 P1 D1 hr => ?_
  refine Z.backK F N P1 (by first | exact Mine.nin1 (Z.offg C (by first | exact nin_nil | exact all_nil | ((repeat (first | exact .head _ | refine .tail _ ?_)); done) | simp)) | exact Mine.all1 (Z.offg C (by first | exact nin_nil | exact all_nil | ((repeat (first | exact .head _ | refine .tail _ ?_)); done) | simp)) | simpa using Z.offg C (by first | exact nin_nil | exact all_nil | ((repeat (first | exact .head _ | refine .tail _ ?_)); done) | simp)) (by first | exact Mine.nin1 (D.alive) | exact Mine.all1 (D.alive) | simpa using D.alive) ?_
  intro own1 mm_ Z1  F1  N1
  (try (refine Mine.wp_let ?_; intro sQ80_))
  rw [cOf_clk] at D1 hr
  have ec : cOf cm gI = c := by simp [cOf, hcm]
  rw [ec] at D1 hr
  rw [upd_map, upd_same hcm] at D1
  have hlv1 := hlv.keeps P1.keeps D.noTup
  have DCn1 := DCn.up fun o e => P1.keeps _ _ (by first | exact Mine.nin1 (hCnC) | exact Mine.all1 (hCnC) | simpa using hCnC) e
  have DR1 := DR.keeps P1.keeps (by first | exact Mine.nin1 (Ne.symm hCR) | exact Mine.all1 (Ne.symm hCR) | simpa using Ne.symm hCR) D.noTup
  (try clear F); (try clear N)
  iterate 10 walk1
  rename Fr g L _ _ => F2
  rename News g L _ own1 => N2
  refine IntD.sortedKeys (DCn1.up fun o e => Z1.sub F2 N2 (fun _ h => h) _ _ e) loC rfl (Mine.room hun) (by rw [sizeLine_eq]; (first | exact ar280 hrs | lia)) fun l out ks k h2 tk2 k2 hnl hol hI hperm => ?_
  refine Z1.pureK F2 N2 k2 ?_
  intro v2 own2 mm_ Z2  F3  N3  kv2  kh2  hall  hnew
  (try (refine Mine.wp_let ?_; intro sQ81_))
  have hl2 := hnew _ _ hol hnl
  have hgl : g.get? l = none := none_of (Fr.toSub F2) hnl
  have hlR : l ≠ R := fun e => by
    obtain ⟨o, ho⟩ := DR1.alive
    have := Z1.sub F2 N2 (fun _ h => h) _ _ ho
    rw [← e] at this
    (try dsimp only at hnl)
    rw [hnl] at this; cases this
  let J : Nat → (Str → Option Value) → List (Addr × Obj) → Prop := fun i m own => CmpJ w h₀ s.heap v g L C R l out k Cn cs n cm lv num path r c rs ks gI word er (fun y => if y = Str.ofString "clock" then some r else List.lookup y [(Str.ofString "self", Value.ref W), (Str.ofString "goroutine", Value.int gI tg), (Str.ofString "location", lv), (Str.ofString "word", Value.str word tw), (Str.ofString "counts", Value.ref Cn), (Str.ofString "earlier", Value.str er te)].reverse) i m own
  have hJ : ∀ i m own, J i m own ↔ CmpJ w h₀ s.heap v g L C R l out k Cn cs n cm lv num path r c rs ks gI word er (fun y => if y = Str.ofString "clock" then some r else List.lookup y [(Str.ofString "self", Value.ref W), (Str.ofString "goroutine", Value.int gI tg), (Str.ofString "location", lv), (Str.ofString "word", Value.str word tw), (Str.ofString "counts", Value.ref Cn), (Str.ofString "earlier", Value.str er te)].reverse) i m own := fun _ _ _ => Iff.rfl
  refine ⟨l, out, _, k, g, _, own2, J,
    rfl, hol, .inr rfl, rfl, F3, N3, (hJ _ _ _).mpr ⟨v2, rs, Z2, hl2, DCn1.up (fun o e => kv2 _ _ e), D1.up kv2, DR1.up kv2, hlv1.up kv2, hr.up kv2, by (first | exact ar200 | lia), ok, fun h => h, fun d => by simp, Same.refl _ _⟩, .inr ?stays, ?turn, ?done⟩
  case stays =>
    intro i m own hj
    refine Mine.byv fun P_ kP_ => ?_
    obtain ⟨vi, rsi, Zi, hli, _⟩ := (hJ _ _ _).mp hj
    refine kP_ ?_
    clear kP_ P_
    exact (Zi.look _ _ hli).2.resolve_left (by rw [hgl]; exact fun e => by cases e)
  case turn =>
    intro i v_ m own Ia oI h tk hv hj F N hIo hcl
    refine Mine.byv fun P_ kP_ => ?_
    obtain ⟨vi, rsi, Zi, hli, DCi, Di, DRi, hlvi, hri, hlen, oki, hnd, hmem, hm⟩ := (hJ _ _ _).mp hj
    refine kP_ ?_
    clear kP_ P_
    clear hj
    refine Mine.byv fun P_ kP_ => ?_
    obtain ⟨o, to, rfl, hko⟩ := intsAre_get hI hv
    refine kP_ ?_
    clear kP_ P_
    refine Same.elimF hm F ?_
    intro u' mm_ F
    have hkey : ∃ q ∈ cs, q.1 = o := by
      have := hperm.mem_iff.mp (List.mem_of_getElem? hko)
      obtain ⟨q, hq, e⟩ := List.mem_map.mp this
      exact ⟨q, hq, e⟩
    have hi : i < ks.length := (List.getElem?_eq_some_iff.mp hko).1
    have hkl : ks.length = cs.length := by rw [hperm.length_eq, List.length_map]
    have nt := iter_noTup hcl
    have hmem' : ∀ d, d ∈ rsi ↔ d ∈ rs ∨ ∃ o ∈ ks.take i, (o ≠ gI ∧ cnt cs o > cnt c o) ∧ d = rowD gI num path word o er := fun d => by simp only [hmem d, and_assoc]
    k_steps
    · rename_i hne
      rename Fr g L _ _ => F5
      rename News g L _ ((Ia, oI) :: own) => N5
      refine IntD.tail (DCi.up fun o e => Zi.sub F5 N5 (fun p hp => .tail _ hp) _ _ e) hkey fun t6 => ?_
      iterate 9 walk1
      refine count_call Xg Tg (Fr.toSub F5) (Mine.room hdp) (Mine.room hun) (hri.up (Zi.sub F5 N5 fun p hp => .tail _ hp)) fun t7 h7 tk7 k7 => ?_
      have F7 := Fr.use F5 (k7.keeps []) (by first | exact nin_nil | exact all_nil | ((repeat (first | exact .head _ | refine .tail _ ?_)); done) | simp) (by first | exact nin_nil | exact all_nil | ((repeat (first | exact .head _ | refine .tail _ ?_)); done) | simp)
      have N7 := News.use N5 (k7.keeps []) (by first | exact nin_nil | exact all_nil | ((repeat (first | exact .head _ | refine .tail _ ?_)); done) | simp)
      (try clear F); (try clear N); (try clear F5); (try clear N5)
      k_steps
      · rename_i hgt
        rename Fr g L _ _ => F8
        rename News g L _ (_ :: _ :: _ :: (Ia, oI) :: own) => N8
        have N9 : News g L _ (_ :: _ :: _ :: own) := fun p hp => N8 p (by
          rcases Mine.mem_sym hp with rfl | hp; exact .head _
          rcases Mine.mem_sym hp with rfl | hp; exact .tail _ (.head _)
          rcases Mine.mem_sym hp with rfl | hp; exact .tail _ (.tail _ (.head _))
          exact .tail _ (.tail _ (.tail _ (.tail _ hp))))
        refine Zi.growK F8 N9 (fun p hp => .tail _ (.tail _ (.tail _ hp))) fun vs  Zg  k1  k2  k3 => ?_
        have hrow : DatH vs _ (rowD gI num path word o er) := DatH.tuple (n := 0) (vs := [_, _, _]) (k3 _ (.head _)) (DatsH.cons (hlvi.up k1) (DatsH.cons (DatH.tuple (n := 0) (vs := [_, _]) (k3 _ (.tail _ (.tail _ (.head _)))) (DatsH.cons (DatH.int _ o _) (DatsH.cons (DatH.str _ er _) (DatsH.nil _))))
          (DatsH.cons (DatH.tuple (n := 0) (vs := [_, _]) (k3 _ (.tail _ (.head _))) (DatsH.cons (DatH.int _ gI _) (DatsH.cons (DatH.str _ word _) (DatsH.nil _)))) (DatsH.nil _))))
        refine Mine.byv fun P_ kP_ => ?_
        obtain ⟨xr, kR, eR, hdR⟩ := DRi.up k1
        refine kP_ ?_
        clear kP_ P_
        refine notIn_list (k2 _ _ eR) (hdR.up k2) (hrow.up k2) oki (rowD_ok hw he) (Mine.room hun) fun b hb => ?_
        cases b with
        | true =>
          have hnew : rowD gI num path word o er ∉ rsi := hb.mp rfl
          iterate 9 walk1
          refine list_method eR k2 ?_
          iterate 4 walk1
          refine list_append_post eR k2 (by have := hdR.length; simp; lia) fun v' h10 k10 P10 eR10 => ?_
          refine Zg.backK F8 N9 P10 (by first | exact Mine.nin1 (Zi.offg R (by first | exact nin_nil | exact all_nil | ((repeat (first | exact .head _ | refine .tail _ ?_)); done) | simp)) | exact Mine.all1 (Zi.offg R (by first | exact nin_nil | exact all_nil | ((repeat (first | exact .head _ | refine .tail _ ?_)); done) | simp)) | simpa using Zi.offg R (by first | exact nin_nil | exact all_nil | ((repeat (first | exact .head _ | refine .tail _ ?_)); done) | simp)) (by first | exact Mine.nin1 (⟨_, eR⟩) | exact Mine.all1 (⟨_, eR⟩) | simpa using ⟨_, eR⟩) ?_
          intro own' mm_ Z'  F10  N10
          (try (refine Mine.wp_let ?_; intro sQ82_))
          have nR := noTup_list eR
          have hIa := N8 (Ia, oI) (.tail _ (.tail _ (.tail _ (.head _))))
          have hnoI : ∀ q ∈ _ :: _ :: _ :: own, q.1 ≠ Ia := fun q hq e => by
            have e1 := (N9 q hq).1
            rw [e, hIa.1] at e1
            have e2 : oI = q.2 := Option.some.inj e1
            rcases Mine.mem_sym hq with rfl | hq; exact nt (e2 ▸ ⟨rfl, _, _, rfl⟩)
            rcases Mine.mem_sym hq with rfl | hq; exact nt (e2 ▸ ⟨rfl, _, _, rfl⟩)
            rcases Mine.mem_sym hq with rfl | hq; exact nt (e2 ▸ ⟨rfl, _, _, rfl⟩)
            exact hIo q hq e
          have hIR : Ia ∉ [R] := fun q => by
            have e1 : Ia = R := by simpa using q
            have e2 := k2 _ _ eR
            rw [← e1, hIa.1] at e2
            have e3 : oI = PySem.W.listOf xr.toArray kR := Option.some.inj e2
            rw [e3] at hcl
            rcases hcl with h | h | h <;> exact absurd h (by first | ((repeat' (first | exact nin_nil | exact all_nil | (refine nin_cons ?_ ?_) | (refine all_cons ?_ ?_) | assumption | exact Ne.symm (by assumption))); done) | simp [PySem.W.listOf])
          obtain ⟨N11, hno'⟩ := iter_back Zg Z' P10 hIa hnoI hIR nt N10
          have DR' : RacesAt v' R (rsi ++ [rowD gI num path word o er]) := ⟨xr ++ [_], k10, by simpa using eR10, (hdR.append (DatsH.cons hrow (DatsH.nil _))).keeps P10.keeps nR⟩
          have hli' := P10.keeps _ _ (fun q => by
            have e1 : l = R := by simpa using q
            have e2 := k1 _ _ hli
            rw [e1, eR] at e2
            exact hlR e1) (k1 _ _ hli)
          have DC' := (DCi.up fun o e => k1 _ _ e).up fun o e => P10.keeps _ _ (by first | exact Mine.nin1 (hCnR) | exact Mine.all1 (hCnR) | simpa using hCnR) e
          have Di' := (Di.up k1).keeps P10.keeps (by first | exact Mine.nin1 (hCR) | exact Mine.all1 (hCR) | simpa using hCR) nR
          have hlv' := (hlvi.up k1).keeps P10.keeps nR
          have hr' := (hri.up k1).keeps P10.keeps nR
          (try clear F8); (try clear N8); (try clear N9); (try clear N10)
          k_steps
          refine ⟨_, _, _, own', rfl, by assumption, by assumption, hno', (hJ _ _ _).mpr ⟨v', _, Z', hli', DC', Di', DR', hlv', hr', by simp; (first | exact ar376 hlen | lia), ?_, ?_, ?_, ?_⟩⟩
          · intro d hd
            rcases List.mem_append.mp hd with hd | hd
            · exact oki d hd
            · rw [List.mem_singleton.mp hd]; exact rowD_ok hw he
          · intro hh
            rw [List.nodup_append]
            exact ⟨hnd hh, by simp, fun a ha b hb e => hnew (by rw [List.mem_singleton.mp hb] at e; rw [← e]; exact ha)⟩
          · have := mem_more (rsj := rsi ++ [rowD gI num path word o er]) hko hmem' (fun d => by
              rw [List.mem_append, List.mem_singleton]
              exact or_congr Iff.rfl ⟨fun q => ⟨⟨by (first | exact ar167 hne | lia), by (first | exact ar48 (by assumption) | lia)⟩, q⟩, fun q => q.2⟩)
            intro d; rw [this d]; simp only [and_assoc]
          · exact (Same.of.put _ _ rfl).put _ _ rfl
        | false =>
          have hold : rowD gI num path word o er ∈ rsi := Classical.byContradiction fun q => by have := hb.mpr q; cases this
          k_steps
          refine ⟨_, _, _, own, rfl, by assumption, fun p hp => N8 p (.tail _ (.tail _ (.tail _ hp))), hIo, (hJ _ _ _).mpr ⟨vi, rsi, Zi, hli, DCi, Di, DRi, hlvi, hri, by (first | exact ar36 hlen | lia), oki, hnd, ?_, (Same.of.put _ _ rfl).put _ _ rfl⟩⟩
          have := mem_more (rsj := rsi) hko hmem' (fun d => ⟨.inl, fun q => q.elim id fun q => by rw [q.2]; exact hold⟩)
          intro d; rw [this d]; simp only [and_assoc]
      · rename_i hgt
        refine ⟨_, _, _, own, rfl, by assumption, by assumption, hIo, (hJ _ _ _).mpr ⟨vi, rsi, Zi, hli, DCi, Di, DRi, hlvi, hri, by (first | exact ar36 hlen | lia), oki, hnd, ?_, (Same.of.put _ _ rfl)⟩⟩
        have := mem_more (rsj := rsi) hko hmem' (fun d => ⟨.inl, fun q => q.elim id fun q => absurd q.1.2 (by (first | exact ar51 hgt | lia))⟩)
        intro d; rw [this d]; simp only [and_assoc]
    · rename_i hne
      refine ⟨_, _, _, own, rfl, by assumption, by assumption, hIo, (hJ _ _ _).mpr ⟨vi, rsi, Zi, hli, DCi, Di, DRi, hlvi, hri, by (first | exact ar36 hlen | lia), oki, hnd, ?_, (Same.of.put _ _ rfl)⟩⟩
      have := mem_more (rsj := rsi) hko hmem' (fun d => ⟨.inl, fun q => q.elim id fun q => absurd q.1.1 (by (first | exact ar166 hne | lia))⟩)
      intro d; rw [this d]; simp only [and_assoc]
  case done =>
    intro m own h tk hj F N
    refine Mine.byv fun P_ kP_ => ?_
    obtain ⟨vi, rsi, Zi, hli, DCi, Di, DRi, hlvi, hri, hlen, oki, hnd, hmem, hm⟩ := (hJ _ _ _).mp hj
    refine kP_ ?_
    clear kP_ P_
    clear hj
    have hol' : out.length = ks.length := by
      have := congrArg List.length hI.nums
      rwa [List.length_map] at this
    have hkl : ks.length = cs.length := by rw [hperm.length_eq, List.length_map]
    k_steps
    (try k_steps)
    show Q .none _
    (try k_steps)
    refine ret rsi vi _ _ (Zi.post F N) Di DRi (by (first | exact ar446 hlen hol' hkl | lia)) oki hnd fun d => ?_
    rw [hmem d, hol', List.take_length]
    refine or_congr Iff.rfl ⟨?_, ?_⟩
    · intro hp0_
      refine Mine.byv fun P_ kP_ => ?_
      obtain ⟨o, ho, h1, h2, h3⟩ := hp0_
      obtain ⟨q, hq, e⟩ := List.mem_map.mp (hperm.mem_iff.mp ho)
      refine kP_ ?_
      clear kP_ P_
      exact ⟨o, ⟨q.2, by rw [← e]; exact hq⟩, h1, h2, h3⟩
    · intro hp0_
      refine Mine.byv fun P_ kP_ => ?_
      obtain ⟨o, ⟨k, hk⟩, h1, h2, h3⟩ := hp0_
      refine kP_ ?_
      clear kP_ P_
      exact ⟨o, hperm.mem_iff.mpr (List.mem_map.mpr ⟨_, hk, rfl⟩), h1, h2, h3⟩
end
theorem itemsAre_ints {prog : Program} {w : World} : ∀ {vs : List Value} {ks : List Int}, IntsAre vs ks → ItemsAre (intKind prog w) ks vs
  | _, _, .nil => .nil
  | _, _, .cons n t r => .cons (intKind_is prog w n t) (itemsAre_ints r)
theorem DatH.key {prog : Program} {w : World} {h : Heap} {a : Addr} {ks : List Int} (x : DatH h (.ref a) (pathD ks)) : IsTupleKey (intKind prog w) h ks a := by
  refine Mine.byv fun P_ kP_ => ?_
  obtain ⟨b, vs, n, e, hb, hvs⟩ := x.untuple
  refine kP_ ?_
  clear kP_ P_
  cases e
  exact ⟨_, vs.toArray, n, hb, rfl, rfl, by simpa using itemsAre_ints hvs.ints⟩
section
variable {prog : Program} {w : World} {K : Type} [DecidableEq K] {knd : HeapKind prog w K} {A : Around} {E : Value → Shared → Prop} {s : Shared} {d a : Addr} {k : K} {xs : List (K × Addr × Value)} {dflt : Value} {Q : Value → Shared → Prop}
theorem setdef_heap (hu : knd.room A.in1) (hkey : knd.is s.heap k a) (lo : (d == sysModules) = false) (hm : s.heap.DictOfH knd d xs) (hsz : xs.length ≤ sizeLine)
    (h1 : ∀ p, atKey xs k = some p → Q p.2 { s with toks := s.toks + knd.draws k }) (h2 : atKey xs k = none → ∀ h', h'.DictOfH knd d (xs ++ [(k, a, dflt)]) → Heap.SameBut d s.heap h' → Q dflt { s with heap := h', toks := s.toks + knd.draws k }) :
    wpAny (model prog w) A (call (.builtin "dict.setdefault") [.ref d, .ref a, dflt]) Q E s := by
  have hT := hm.typeIs
  refine wpAny_call_entry F.slot_dict_setdefault hT F.entry_dict_setdefault ?_ (F.args_dict_setdefault_3 _ _ _)
  unfold Builtin.«dict.setdefault» Builtin.Dict.keyAndDefault
  refine wpAny_bind (wpAny_bind (wpAny_notOrdered_dict hT ?_))
  refine wpAny_pure (a := (d, Value.ref a, some dflt)) ?_
  show wpAny _ _ (if (d == sysModules) = true then _ else (dictSetDefault d (.ref a) dflt >>= _)) _ _ s
  rw [if_neg (by rw [lo]; exact Bool.false_ne_true)]
  refine wpAny_bind ?_
  refine Mine.byv fun P_ kP_ => ?_
  obtain ⟨o, es, ep, ho, hc, hd, he, his, hn⟩ := hm
  refine kP_ ?_
  clear kP_ P_
  unfold dictSetDefault
  refine wpAny_holding (wpAny_bind (knd.pyHash hu hkey ?_))
  refine wpAny_bind (wpAny_dictFind_heap (s := { s with toks := s.toks + knd.draws k }) hu hkey ho hd he his hn ?_ ?_)
  · intro hno
    have hnot := not_mem_keys_of_get hno
    have hat := atKey_none_of_get hno
    refine wpAny_bind (wpAny_rule (wpAny_bind (wpAny_updateDictKeys (hz := by have e := size_of_entries he; (first | exact ar110 hsz e | lia)) (s := { s with toks := s.toks + knd.draws k }) ho hd (wpAny_pure (wpAny_pure ⟨_, rfl, h2 hat _ ⟨_, _, ep + 1, Heap.get?_update_self _ ho (Obj.isFreed_of_dict (Obj.data_mapDictKeys hd _)),
      hc.mapDictKeys _, Obj.data_mapDictKeys hd _, ?_, ?_, ?_⟩ (Heap.SameBut.update ..)⟩)))))
    · simp [he, entryOfKey]
    · intro x hx
      rcases List.mem_append.mp hx with hx | hx
      · exact knd.keeps (his x hx) ho hd (Heap.SameBut.update ..)
      · rw [List.mem_singleton.mp hx]
        exact knd.keeps hkey ho hd (Heap.SameBut.update ..)
    · rw [List.map_append, List.nodup_append]
      refine ⟨hn, by simp, fun x hx y hy => ?_⟩
      have : y = k := by simpa using hy
      rw [this]
      exact fun e => hnot (e ▸ hx)
  · intro j p hj
    refine wpAny_bind (wpAny_dictEntries (s := { s with toks := s.toks + knd.draws k }) ho hd ?_)
    rw [entry_at he j, hj]
    exact wpAny_bind (wpAny_rule (wpAny_pure (wpAny_pure ⟨_, rfl, h1 p (atKey_of_get hn hj)⟩)))
end
/-- one place of the watch: its path, its key, where its parts stand, what it counts -/
structure PlA where
  path : List Int
  key : Addr
  x : Addr
  dx : Addr
  Rd : Addr
  Wr : Addr
  rc : List (Int × Int)
  wc : List (Int × Int)
structure RwA where
  num : Int
  addr : Addr
  rows : List PlA
noncomputable def PlA.all (q : PlA) : List Addr := [q.x, q.dx, q.Rd, q.Wr]
noncomputable def RwA.all (r : RwA) : List Addr := r.addr :: r.rows.flatMap PlA.all
noncomputable def allOf (ps : List RwA) : List Addr := ps.flatMap RwA.all
noncomputable def PlaceAt (w : World) (h : Heap) (q : PlA) : Prop := DatH h (.ref q.key) (pathD q.path) ∧ (∃ t1 t2, InstAt h q.x (instObj 94 q.dx) 94 (some (placeD w t1 t2 q.Rd q.Wr))) ∧ (IntD PG w h q.Rd q.rc ∧ (q.Rd == sysModules) = false) ∧ IntD PG w h q.Wr q.wc ∧ (q.Wr == sysModules) = false
noncomputable def entOf (q : PlA) : List Int × Addr × Value := (q.path, q.key, .ref q.x)
noncomputable def RowsAt (w : World) (h : Heap) (r : RwA) : Prop := h.DictOfH (tupleKind (intKind PG w)) r.addr (r.rows.map entOf) ∧ (r.addr == sysModules) = false ∧ ∀ q ∈ r.rows, PlaceAt w h q
noncomputable def PlacesAt (w : World) (h : Heap) (P : Addr) (ps : List RwA) : Prop := h.DictOf (intKind PG w) P (ps.map fun r => (r.num, .ref r.addr)) ∧ (P == sysModules) = false ∧ ∀ r ∈ ps, RowsAt w h r
section
variable {w : World} {h h' : Heap} {fp : List Addr} {q : PlA} {r : RwA} {ps : List RwA} {P : Addr}
theorem PlaceAt.keeps (x : PlaceAt w h q) (k : Keeps fp h h') (hd : ∀ a ∈ q.all, a ∉ fp) (nt : NoTup h fp) : PlaceAt w h' q := by
  refine Mine.byv fun P_ kP_ => ?_
  obtain ⟨a, ⟨t1, t2, I⟩, ⟨b, lb⟩, c, lc⟩ := x
  refine kP_ ?_
  clear kP_ P_
  simp only [PlA.all, List.mem_cons, List.not_mem_nil, or_false, forall_eq_or_imp, forall_eq] at hd
  exact ⟨a.keeps k nt, ⟨t1, t2, InstAt.keeps' I k hd.1 (fun a e => Mine.dict_nin e (by exact hd.2.1))⟩, ⟨b.up fun o e => k _ _ hd.2.2.1 e, lb⟩, c.up fun o e => k _ _ hd.2.2.2 e, lc⟩
theorem dictH_noTup {d : Addr} {xs : List (List Int × Addr × Value)} (x : h.DictOfH (tupleKind (intKind PG w)) d xs) : NoTup h [d] := fun a ha o e => by
  have : a = d := by simpa using ha
  subst this
  refine Mine.byv fun P_ kP_ => ?_
  obtain ⟨o', _, _, ho, hc, _⟩ := x
  refine kP_ ?_
  clear kP_ P_
  rw [ho] at e; cases e
  exact fun hh => absurd (hc.1.symm.trans hh.1) (by first | exact nin_nil | exact all_nil | ((repeat (first | exact .head _ | refine .tail _ ?_)); done) | simp)
theorem dictH_at {d : Addr} {xs : List (List Int × Addr × Value)} (x : h.DictOfH (tupleKind (intKind PG w)) d xs) (hk : ∀ y ∈ xs, IsTupleKey (intKind PG w) h' y.1 y.2.1) (e : ∀ o, h.get? d = some o → h'.get? d = some o) : h'.DictOfH (tupleKind (intKind PG w)) d xs := by
  refine Mine.byv fun P_ kP_ => ?_
  obtain ⟨o, es, ep, ho, hc, hd, he, _, hn⟩ := x
  refine kP_ ?_
  clear kP_ P_
  exact ⟨o, es, ep, e _ ho, hc, hd, he, hk, hn⟩
theorem RowsAt.keeps (x : RowsAt w h r) (k : Keeps fp h h') (hd : ∀ a ∈ r.all, a ∉ fp) (nt : NoTup h fp) : RowsAt w h' r := by
  obtain ⟨a, lo, b⟩ := x
  have hp : ∀ q ∈ r.rows, PlaceAt w h' q := fun q hq => (b q hq).keeps k (fun a ha => hd a (List.mem_cons_of_mem _ (List.mem_flatMap.mpr ⟨q, hq, ha⟩))) nt
  refine ⟨dictH_at a (fun y hy => ?_) (fun o e => k _ _ (hd _ (List.mem_cons_self ..)) e), lo, hp⟩
  obtain ⟨q, hq, rfl⟩ := List.mem_map.mp hy
  exact (hp q hq).1.key
theorem PlacesAt.keeps (x : PlacesAt w h P ps) (k : Keeps fp h h') (hP : P ∉ fp) (hd : ∀ a ∈ allOf ps, a ∉ fp) (nt : NoTup h fp) : PlacesAt w h' P ps := by
  obtain ⟨a, lo, b⟩ := x
  exact ⟨a.at fun o e => k _ _ hP e, lo, fun r hr => (b r hr).keeps k (fun a ha => hd a (List.mem_flatMap.mpr ⟨r, hr, ha⟩)) nt⟩
theorem PlacesAt.up (x : PlacesAt w h P ps) (k : Sub h h') : PlacesAt w h' P ps := x.keeps (k.keeps []) (by first | exact nin_nil | exact all_nil | ((repeat (first | exact .head _ | refine .tail _ ?_)); done) | simp) (by first | exact nin_nil | exact all_nil | ((repeat (first | exact .head _ | refine .tail _ ?_)); done) | simp) (fun a ha => by cases ha)
theorem PlacesAt.alive (x : PlacesAt w h P ps) : ∀ a ∈ P :: allOf ps, ∃ o, h.get? a = some o := by
  refine Mine.byv fun P_ kP_ => ?_
  obtain ⟨⟨o, _, _, ho, _⟩, lo, b⟩ := x
  refine kP_ ?_
  clear kP_ P_
  intro a ha
  rcases Mine.mem_sym ha with rfl | ha
  · exact ⟨o, ho⟩
  · obtain ⟨r, hr, ha⟩ := List.mem_flatMap.mp ha
    refine Mine.byv fun P_ kP_ => ?_
    obtain ⟨⟨o, _, _, ho, _⟩, _, hp⟩ := b r hr
    refine kP_ ?_
    clear kP_ P_
    rcases Mine.mem_sym ha with rfl | ha
    · exact ⟨o, ho⟩
    · obtain ⟨q, hq, ha⟩ := List.mem_flatMap.mp ha
      refine Mine.byv fun P_ kP_ => ?_
      obtain ⟨_, ⟨t1, t2, I⟩, ⟨c, _⟩, e, _⟩ := hp q hq
      refine kP_ ?_
      clear kP_ P_
      simp only [PlA.all, List.mem_cons, List.not_mem_nil, or_false] at ha
      rcases ha with rfl | rfl | rfl | rfl
      · exact ⟨_, I.at_⟩
      · exact ⟨_, I.dict⟩
      · exact c.alive
      · exact e.alive
theorem NoTup.one {l : List Addr} (h1 : ∀ a ∈ l, NoTup h [a]) : NoTup h l := fun a ha o e => h1 a ha a (by first | exact nin_nil | exact all_nil | ((repeat (first | exact .head _ | refine .tail _ ?_)); done) | simp) o e
end
theorem atKey_map {rows : List PlA} {k : List Int} (hn : (rows.map (·.path)).Nodup) : (atKey (rows.map entOf) k = none ∧ ∀ q ∈ rows, q.path ≠ k) ∨ ∃ q ∈ rows, q.path = k ∧ atKey (rows.map entOf) k = some (q.key, .ref q.x) := by
  induction rows with
  | nil => exact .inl ⟨rfl, by simp⟩
  | cons q rows ih =>
    by_cases e : q.path = k
    · exact .inr ⟨q, .head _, e, by simp [atKey, entOf, e]⟩
    · rw [List.map_cons, List.nodup_cons] at hn
      rcases ih hn.2 with ⟨h1, h2⟩ | ⟨q', hq', h1, h2⟩
      · refine .inl ⟨?_, fun p hp => ?_⟩
        · simp only [atKey, List.map_cons, entOf, List.find?_cons, e, decide_false] at h1 ⊢
          exact h1
        · rcases Mine.mem_sym hp with rfl | hp
          · exact e
          · exact h2 p hp
      · refine .inr ⟨q', .tail _ hq', h1, ?_⟩
        simp only [atKey, List.map_cons, entOf, List.find?_cons, e, decide_false] at h2 ⊢
        exact h2
noncomputable def placeOf (ps : List RwA) (num : Int) (path : List Int) : Option PlA := (ps.find? (fun r => r.num = num)).bind fun r => r.rows.find? (fun q => q.path = path)
noncomputable def Wf (ps : List RwA) (num : Int) (path : List Int) (o : Int) : Int := ((placeOf ps num path).map fun q => cnt q.wc o).getD 0
noncomputable def Rf (ps : List RwA) (num : Int) (path : List Int) (o : Int) : Int := ((placeOf ps num path).map fun q => cnt q.rc o).getD 0
/-- rows of the object num turned by f -/
noncomputable def onNum (ps : List RwA) (num : Int) (f : List PlA → List PlA) : List RwA := ps.map fun r => if r.num = num then { r with rows := f r.rows } else r
theorem find_onNum (ps : List RwA) (num : Int) (f : List PlA → List PlA) (k : Int) : (onNum ps num f).find? (fun r => r.num = k) = (ps.find? (fun r => r.num = k)).map fun r => if r.num = num then { r with rows := f r.rows } else r := by
  induction ps with
  | nil => rfl
  | cons r ps ih =>
    have e1 : (if r.num = num then { r with rows := f r.rows } else r).num = r.num := by split <;> rfl
    rw [onNum, List.map_cons, List.find?_cons, List.find?_cons, e1]
    by_cases e : r.num = k
    · simp [e]
    · simp only [e, decide_false]; exact ih
theorem find_num {ps : List RwA} {r : RwA} (hn : (ps.map (·.num)).Nodup) (hr : r ∈ ps) : ps.find? (fun x => x.num = r.num) = some r := by
  induction ps with
  | nil => cases hr
  | cons x ps ih =>
    rw [List.map_cons, List.nodup_cons] at hn
    rcases Mine.mem_sym hr with rfl | hr
    · simp
    · have : ¬ x.num = r.num := fun e => hn.1 (List.mem_map.mpr ⟨r, hr, e.symm⟩)
      simp only [List.find?_cons, this, decide_false]
      exact ih hn.2 hr
theorem PlacesAt.nums {w : World} {h : Heap} {P : Addr} {ps : List RwA} (x : PlacesAt w h P ps) : (ps.map (·.num)).Nodup := by
  refine Mine.byv fun P_ kP_ => ?_
  obtain ⟨⟨_, _, _, _, _, _, _, _, hn⟩, _⟩ := x
  refine kP_ ?_
  clear kP_ P_
  rwa [List.map_map] at hn
theorem RowsAt.paths {w : World} {h : Heap} {r : RwA} (x : RowsAt w h r) : (r.rows.map (·.path)).Nodup := by
  refine Mine.byv fun P_ kP_ => ?_
  obtain ⟨⟨_, _, _, _, _, _, _, _, hn⟩, _⟩ := x
  refine kP_ ?_
  clear kP_ P_
  rwa [List.map_map] at hn
theorem valueAt_nums {ps : List RwA} (num : Int) : (valueAt (ps.map fun r => (r.num, Value.ref r.addr)) num = none ∧ ∀ r ∈ ps, r.num ≠ num) ∨ ∃ r ∈ ps, r.num = num ∧ valueAt (ps.map fun r => (r.num, Value.ref r.addr)) num = some (.ref r.addr) := by
  induction ps with
  | nil => exact .inl ⟨rfl, by simp⟩
  | cons r ps ih =>
    by_cases e : r.num = num
    · exact .inr ⟨r, .head _, e, by simp [valueAt, e]⟩
    · rcases ih with ⟨h1, h2⟩ | ⟨q, hq, h1, h2⟩
      · refine .inl ⟨?_, fun p hp => ?_⟩
        · simp only [valueAt, List.map_cons, List.find?_cons, e, decide_false] at h1 ⊢
          exact h1
        · rcases Mine.mem_sym hp with rfl | hp
          · exact e
          · exact h2 p hp
      · refine .inr ⟨q, .tail _ hq, h1, ?_⟩
        simp only [valueAt, List.map_cons, List.find?_cons, e, decide_false] at h2 ⊢
        exact h2
theorem stored_new {kvs : List (Int × Value)} {k : Int} {v : Value} (h : ∀ p ∈ kvs, p.1 ≠ k) : stored kvs k v = kvs ++ [(k, v)] := by
  unfold stored
  rw [if_neg]
  intro q
  obtain ⟨p, hp, e⟩ := List.any_eq_true.mp q
  exact h p hp (by first | exact Mine.nin1 (e) | exact Mine.all1 (e) | simpa using e)
/-- how large the places are: objects, paths of an object, goroutines of a place -/
noncomputable def BD (a b c : Nat) (ps : List RwA) : Prop := ps.length ≤ a ∧ ∀ r ∈ ps, r.rows.length ≤ b ∧ ∀ q ∈ r.rows, q.path.length ≤ 10 ∧ q.rc.length ≤ c ∧ q.wc.length ≤ c
section
variable {w : World} {A : Around} {E : Value → Shared → Prop} {s : Shared} {vs : Heap} {P : Addr} {ps : List RwA}
theorem setdef_places {num : Int} {t : Tok} {nd : Addr} {Q : Value → Shared → Prop} (DP : PlacesAt w vs P ps) (V : Sub vs s.heap) (Dn : vs.DictOfH (tupleKind (intKind PG w)) nd []) (lo : (nd == sysModules) = false) (hnP : nd ≠ P) (hnd : nd ∉ allOf ps) (hPa : P ∉ allOf ps) (hna : (allOf ps).Nodup) (hlen : ps.length ≤ 1000)
    (h : ∀ r0 ps2 v' h' tk, Post s.heap vs v' h' [P] → PlacesAt w v' P ps2 → r0 ∈ ps2 → r0.num = num → ps2.length ≤ ps.length + 1 → (∀ a ∈ allOf ps2, a ∈ allOf ps ∨ a = nd) → (allOf ps2).Nodup → (∀ n path, placeOf ps2 n path = placeOf ps n path) → (∀ a b c, BD a b c ps → BD (a + 1) b c ps2) → (∀ a ∈ allOf ps, a ∈ allOf ps2) → Q (.ref r0.addr) { s with heap := h', toks := tk }) :
    wpAny (model PG w) A (call (.builtin "dict.setdefault") [.ref P, .int num t, .ref nd]) Q E s := by
  have nt := dict_noTup DP.1
  obtain ⟨oP, hoP, _⟩ := Heap.dictOf_iff.mp DP.1
  refine call_meetsIn PySem.F.slot_dict_setdefault (DP.1.keep V).typeIs PySem.F.entry_dict_setdefault (PySem.F.args_dict_setdefault_3 _ _ _) (kt_meets_setdefault (intKind PG w) P (intKind_is PG w num t) DP.2.1 (.ref nd))
    ⟨_, DP.1.keep V, by rw [List.length_map, sizeLine_eq]; (first | exact ar4 hlen | lia), fun v hv => ?_, fun hv h' hD' hs => ?_⟩
  · rcases valueAt_nums (ps := ps) num with ⟨h1, _⟩ | ⟨r, hr, e, h1⟩
    · rw [h1] at hv; cases hv
    · rw [h1] at hv; cases hv
      exact h r ps vs s.heap _ ((Post.same V (Sub.refl _)).mono (by first | exact nin_nil | exact all_nil | ((repeat (first | exact .head _ | refine .tail _ ?_)); done) | simp)) DP hr e (Nat.le_succ _) (fun a ha => .inl ha) hna (fun _ _ => rfl) (fun _ _ _ h => ⟨Nat.le_succ_of_le h.1, h.2⟩) (fun _ h => h)
  · rcases valueAt_nums (ps := ps) num with ⟨_, h2⟩ | ⟨r, hr, e, h1⟩
    · have hk : Keeps [P] s.heap h' := fun b o hb e => (hs.2 b (by first | exact Mine.nin1 (hb) | exact Mine.all1 (hb) | simpa using hb)).trans e
      refine Mine.byv fun P_ kP_ => ?_
      obtain ⟨o, ho, hO⟩ := Heap.dictOf_iff.mp hD'
      obtain ⟨v', Po, hv'⟩ := Post.one V ⟨oP, hoP⟩ hk ho
      refine kP_ ?_
      clear kP_ P_
      have hO' : v'.DictOf (intKind PG w) P ((ps ++ [(⟨num, nd, []⟩ : RwA)]).map fun r => (r.num, Value.ref r.addr)) := by
        rw [stored_new (fun p hp => by obtain ⟨r, hr, rfl⟩ := List.mem_map.mp hp; exact h2 r hr)] at hO
        rw [List.map_append]
        exact Heap.dictOf_iff.mpr ⟨o, hv', hO⟩
      have hr0 : RowsAt w v' ⟨num, nd, []⟩ := ⟨dictH_at Dn (by first | exact nin_nil | exact all_nil | ((repeat (first | exact .head _ | refine .tail _ ?_)); done) | simp) fun o e => Po.keeps _ _ (by first | exact Mine.nin1 (hnP) | exact Mine.all1 (hnP) | simpa using hnP) e, lo, by simp⟩
      refine h ⟨num, nd, []⟩ (ps ++ [⟨num, nd, []⟩]) v' h' _ Po ⟨hO', DP.2.1, fun r hr => ?_⟩ (by first | exact nin_nil | exact all_nil | ((repeat (first | exact .head _ | refine .tail _ ?_)); done) | simp) rfl (by first | exact nin_nil | exact all_nil | ((repeat (first | exact .head _ | refine .tail _ ?_)); done) | simp) (fun a ha => ?_) ?_ (fun n path => ?_) (fun a b c h => ⟨by have := h.1; simp; (first | exact ar1 this | lia), fun r hr => (List.mem_append.mp hr).elim (h.2 r) fun q => by rw [List.mem_singleton.mp q]; exact ⟨Nat.zero_le _, by simp⟩⟩) (fun a ha => by simp only [allOf, List.flatMap_append, List.mem_append]; exact .inl ha)
      · rcases List.mem_append.mp hr with hr | hr
        · exact (DP.2.2 r hr).keeps Po.keeps (fun a ha q => hPa (by rw [← List.mem_singleton.mp q]; exact List.mem_flatMap.mpr ⟨r, hr, ha⟩)) nt
        · rw [List.mem_singleton.mp hr]; exact hr0
      · simp only [allOf, List.flatMap_append, List.mem_append] at ha ⊢
        exact ha.imp id fun q => by simpa [RwA.all] using q
      · simp only [allOf, List.flatMap_append, List.nodup_append]
        refine ⟨hna, by simp [RwA.all], fun a ha b hb => ?_⟩
        have : b = nd := by simpa [RwA.all] using hb
        rw [this]
        exact fun e => hnd (e ▸ ha)
      · unfold placeOf
        rw [List.find?_append]
        cases q : ps.find? (fun r => r.num = n) with
        | some r => rfl
        | none =>
          by_cases e : num = n
          · simp [e]
          · simp [e]
    · rw [h1] at hv; cases hv
/-- the rows of num turned, the rest as it was -/
theorem PlacesAt.turn {h h' : Heap} {r0 : RwA} {f : List PlA → List PlA} {fp : List Addr} (x : PlacesAt w h P ps) (hr : r0 ∈ ps) (k : Keeps fp h h') (hP : P ∉ fp) (hd : ∀ r ∈ ps, r.num ≠ r0.num → ∀ a ∈ r.all, a ∉ fp) (nt : NoTup h fp) (y : RowsAt w h' { r0 with rows := f r0.rows }) : PlacesAt w h' P (onNum ps r0.num f) := by
  have hn := x.nums
  obtain ⟨a, lo, b⟩ := x
  refine ⟨?_, lo, fun r hr' => ?_⟩
  · have e : ((onNum ps r0.num f).map fun r => (r.num, Value.ref r.addr)) = ps.map fun r => (r.num, Value.ref r.addr) := by
      rw [onNum, List.map_map]
      exact List.map_congr_left fun r _ => by dsimp only [Function.comp]; split <;> rfl
    rw [e]
    exact a.at fun o e => k _ _ hP e
  · obtain ⟨r1, h1, rfl⟩ := List.mem_map.mp hr'
    by_cases e : r1.num = r0.num
    · have : r1 = r0 := by
        have e1 := find_num hn h1
        have e2 := find_num hn hr
        rw [e, e2] at e1
        exact (Option.some.inj e1).symm
      subst this
      rw [if_pos rfl]; exact y
    · rw [if_neg e]
      exact (b r1 h1).keeps k (hd r1 h1 e) nt
end
theorem allOf_cons (r : RwA) (ps : List RwA) : allOf (r :: ps) = r.all ++ allOf ps := by simp [allOf]
theorem disj_all {ps : List RwA} {r r0 : RwA} {a : Addr} (hn : (allOf ps).Nodup) (hr : r ∈ ps) (hr0 : r0 ∈ ps) (hne : r.num ≠ r0.num) (ha : a ∈ r.all) (hb : a ∈ r0.all) : False := by
  induction ps with
  | nil => cases hr
  | cons x ps ih =>
    rw [allOf_cons, List.nodup_append] at hn
    rcases List.mem_cons.mp hr with e1 | h1
    · rcases List.mem_cons.mp hr0 with e2 | h2
      · exact hne (by rw [e1, e2])
      · exact hn.2.2 a (e1 ▸ ha) a (List.mem_flatMap.mpr ⟨r0, h2, hb⟩) rfl
    · rcases List.mem_cons.mp hr0 with e2 | h2
      · exact hn.2.2 a (e2 ▸ hb) a (List.mem_flatMap.mpr ⟨r, h1, ha⟩) rfl
      · exact ih hn.2.1 h1 h2
theorem onNum_none {ps : List RwA} {num : Int} {f : List PlA → List PlA} (h : ∀ r ∈ ps, r.num ≠ num) : onNum ps num f = ps := by
  unfold onNum
  conv => rhs; rw [← List.map_id ps]
  exact List.map_congr_left fun r hr => by rw [if_neg (h r hr)]; rfl
theorem allOf_add {ps : List RwA} {r0 : RwA} {q0 : PlA} (hn : (ps.map (·.num)).Nodup) (hr : r0 ∈ ps) : (allOf (onNum ps r0.num (· ++ [q0]))).Perm (allOf ps ++ q0.all) := by
  induction ps with
  | nil => cases hr
  | cons x ps ih =>
    rw [List.map_cons, List.nodup_cons] at hn
    by_cases e : x.num = r0.num
    · have hno : ∀ r ∈ ps, r.num ≠ r0.num := fun r h q => hn.1 (List.mem_map.mpr ⟨r, h, by rw [q, e]⟩)
      have e1 : onNum (x :: ps) r0.num (· ++ [q0]) = { x with rows := x.rows ++ [q0] } :: onNum ps r0.num (· ++ [q0]) := by simp [onNum, e]
      rw [e1, onNum_none hno, allOf_cons, allOf_cons]
      simp only [RwA.all, List.flatMap_append, List.flatMap_cons, List.flatMap_nil, List.append_nil, List.cons_append, List.append_assoc]
      exact List.Perm.cons _ (List.Perm.append_left _ List.perm_append_comm)
    · have e1 : onNum (x :: ps) r0.num (· ++ [q0]) = x :: onNum ps r0.num (· ++ [q0]) := by simp [onNum, e]
      have hr' : r0 ∈ ps := by
        rcases Mine.mem_sym hr with rfl | h
        · exact absurd rfl e
        · exact h
      rw [e1, allOf_cons, allOf_cons, List.append_assoc]
      exact List.Perm.append_left _ (ih hn.2 hr')
theorem allOf_same (ps : List RwA) (num : Int) (f : PlA → PlA) (hf : ∀ q, (f q).all = q.all) : allOf (onNum ps num (List.map f)) = allOf ps := by
  unfold allOf onNum
  rw [List.flatMap_map]
  congr 1
  funext r
  by_cases e : r.num = num
  · simp only [e, if_true, RwA.all, List.flatMap_map]
    congr 2
    funext q
    exact hf q
  · simp [e]
theorem placeOf_onNum (ps : List RwA) (num : Int) (f : List PlA → List PlA) (k : Int) (path : List Int) :
    placeOf (onNum ps num f) k path = (ps.find? (fun r => r.num = k)).bind fun r => if r.num = num then (f r.rows).find? (fun q => q.path = path) else r.rows.find? (fun q => q.path = path) := by
  unfold placeOf
  rw [find_onNum]
  cases ps.find? (fun r => r.num = k) with
  | none => rfl
  | some r =>
    dsimp only [Option.map_some, Option.bind_some]
    split <;> rfl
theorem find_path {rows : List PlA} {q : PlA} (hn : (rows.map (·.path)).Nodup) (hq : q ∈ rows) : rows.find? (fun x => x.path = q.path) = some q := by
  induction rows with
  | nil => cases hq
  | cons x rows ih =>
    rw [List.map_cons, List.nodup_cons] at hn
    rcases Mine.mem_sym hq with rfl | hq
    · simp
    · have : ¬ x.path = q.path := fun e => hn.1 (List.mem_map.mpr ⟨q, hq, e.symm⟩)
      simp only [List.find?_cons, this, decide_false]
      exact ih hn.2 hq
theorem placeOf_at {ps : List RwA} {r0 : RwA} {q : PlA} (hn : (ps.map (·.num)).Nodup) (hr : r0 ∈ ps) (hp : (r0.rows.map (·.path)).Nodup) (hq : q ∈ r0.rows) : placeOf ps r0.num q.path = some q := by
  unfold placeOf
  rw [find_num hn hr]
  exact find_path hp hq
section
variable {w : World} {A : Around} {E : Value → Shared → Prop} {s : Shared} {vs : Heap} {P : Addr} {ps : List RwA}
theorem setdef_rows {r0 : RwA} {q0 : PlA} {Q : Value → Shared → Prop} (DP : PlacesAt w vs P ps) (V : Sub vs s.heap) (hr : r0 ∈ ps) (D0 : PlaceAt w vs q0) (h0r : q0.rc = []) (h0w : q0.wc = []) (hPa : P ∉ allOf ps) (hna : (allOf ps).Nodup) (hq0 : q0.all.Nodup) (hdis : ∀ a ∈ q0.all, a ∉ allOf ps) (hlen : r0.rows.length ≤ 1000) (hu : A.units + 10 < cLine)
    (h : ∀ r q ps3 v' h' tk, Post s.heap vs v' h' [r0.addr] → PlacesAt w v' P ps3 → r ∈ ps3 → q ∈ r.rows → r.num = r0.num → q.path = q0.path → (∀ a ∈ allOf ps3, a ∈ allOf ps ∨ a ∈ q0.all) → (allOf ps3).Nodup → (q0.path.length ≤ 10 → ∀ a b c, BD a b c ps → BD a (b + 1) c ps3) → (∀ n path o, Wf ps3 n path o = Wf ps n path o ∧ Rf ps3 n path o = Rf ps n path o) → Q (.ref q.x) { s with heap := h', toks := tk }) :
    wpAny (model PG w) A (call (.builtin "dict.setdefault") [.ref r0.addr, .ref q0.key, .ref q0.x]) Q E s := by
  have nums := DP.nums
  have hR := DP.2.2 r0 hr
  have paths := hR.paths
  have nt := dictH_noTup hR.1
  have hRs : s.heap.DictOfH (tupleKind (intKind PG w)) r0.addr (r0.rows.map entOf) := dictH_at hR.1 (fun y hy => by
    obtain ⟨q, hq, rfl⟩ := List.mem_map.mp hy
    exact ((hR.2.2 q hq).1.up V).key) fun o e => V _ _ e
  refine Mine.byv fun P_ kP_ => ?_
  obtain ⟨o0, _, _, ho0, _⟩ := hR.1
  refine kP_ ?_
  clear kP_ P_
  refine setdef_heap (knd := tupleKind (intKind PG w)) (k := q0.path) (by show A.units + 1 < _; (first | exact ar271 hu | lia)) ((D0.1.up V).key) hR.2.1 hRs (by rw [List.length_map, sizeLine_eq]; (first | exact ar4 hlen | lia)) (fun p hp => ?_) fun hp h' hD' hs => ?_
  · rcases atKey_map (k := q0.path) paths with ⟨h1, _⟩ | ⟨q, hq, e, h1⟩
    · rw [h1] at hp; cases hp
    · rw [h1] at hp; cases hp
      exact h r0 q ps vs s.heap _ ((Post.same V (Sub.refl _)).mono (by first | exact nin_nil | exact all_nil | ((repeat (first | exact .head _ | refine .tail _ ?_)); done) | simp)) DP hr hq rfl e (fun a ha => .inl ha) hna (fun _ _ _ _ h => ⟨h.1, fun r hr => ⟨Nat.le_succ_of_le (h.2 r hr).1, (h.2 r hr).2⟩⟩) (fun _ _ _ => ⟨rfl, rfl⟩)
  · have hno : ∀ q ∈ r0.rows, q.path ≠ q0.path := by
      rcases atKey_map (k := q0.path) paths with ⟨_, h2⟩ | ⟨q, hq, e, h1⟩
      · exact h2
      · rw [h1] at hp; cases hp
    have hk : Keeps [r0.addr] s.heap h' := fun b o hb e => (hs.2 b (by first | exact Mine.nin1 (hb) | exact Mine.all1 (hb) | simpa using hb)).trans e
    refine Mine.byv fun P_ kP_ => ?_
    obtain ⟨o, es, ep, ho, hc, hd, he, his, hn⟩ := hD'
    obtain ⟨v', Po, hv'⟩ := Post.one V ⟨o0, ho0⟩ hk ho
    refine kP_ ?_
    clear kP_ P_
    have hra : r0.addr ∈ allOf ps := List.mem_flatMap.mpr ⟨r0, hr, List.mem_cons_self ..⟩
    have hq0' : PlaceAt w v' q0 := D0.keeps Po.keeps (fun a ha q => hdis a ha (by rw [List.mem_singleton.mp q]; exact hra)) nt
    have hrows : ∀ q ∈ r0.rows, PlaceAt w v' q := fun q hq => (hR.2.2 q hq).keeps Po.keeps (fun a ha e => by
      have e1 : a = r0.addr := List.mem_singleton.mp e
      have : r0.all.Nodup := by
        have gen : ∀ {ps : List RwA}, (allOf ps).Nodup → r0 ∈ ps → r0.all.Nodup := by
          intro ps
          induction ps with
          | nil => intro _ h; cases h
          | cons x ps ih =>
            intro hn hr
            rw [allOf_cons, List.nodup_append] at hn
            rcases List.mem_cons.mp hr with rfl | hr
            · exact hn.1
            · exact ih hn.2.1 hr
        exact gen hna hr
      rw [RwA.all, List.nodup_cons] at this
      exact this.1 (by rw [← e1]; exact List.mem_flatMap.mpr ⟨q, hq, ha⟩)) nt
    have hR' : RowsAt w v' { r0 with rows := r0.rows ++ [q0] } := by
      refine ⟨⟨o, es, ep, hv', hc, hd, ?_, fun y hy => ?_, ?_⟩, hR.2.1, fun q hq => ?_⟩
      · rw [he]; simp [entOf]
      · obtain ⟨q, hq, rfl⟩ := List.mem_map.mp hy
        rcases List.mem_append.mp hq with hq | hq
        · exact (hrows q hq).1.key
        · rw [List.mem_singleton.mp hq]; exact hq0'.1.key
      · have e : (r0.rows ++ [q0]).map entOf = r0.rows.map entOf ++ [(q0.path, q0.key, Value.ref q0.x)] := by simp [entOf]
        rw [e]; exact hn
      · rcases List.mem_append.mp hq with hq | hq
        · exact hrows q hq
        · rw [List.mem_singleton.mp hq]; exact hq0'
    have hP3 := DP.turn (f := (· ++ [q0])) hr Po.keeps (fun q => hPa (by rw [List.mem_singleton.mp q]; exact hra)) (fun r h1 h2 a ha q => disj_all hna h1 hr h2 ha (by rw [List.mem_singleton.mp q]; exact List.mem_cons_self ..)) nt hR'
    have hperm := allOf_add (q0 := q0) nums hr
    have hsem : ∀ n path, placeOf (onNum ps r0.num (· ++ [q0])) n path = placeOf ps n path ∨ (placeOf (onNum ps r0.num (· ++ [q0])) n path = some q0 ∧ placeOf ps n path = none) := by
      intro n path
      rw [placeOf_onNum]
      unfold placeOf
      cases hf : ps.find? (fun r => r.num = n) with
      | none => exact .inl rfl
      | some r =>
        dsimp only [Option.bind_some]
        by_cases e : r.num = r0.num
        · rw [if_pos e, List.find?_append]
          cases hf2 : r.rows.find? (fun q => q.path = path) with
          | some q => exact .inl rfl
          | none =>
            by_cases e2 : q0.path = path
            · exact .inr ⟨by simp [e2], rfl⟩
            · exact .inl (by first | ((repeat' (first | exact nin_nil | exact all_nil | (refine nin_cons ?_ ?_) | (refine all_cons ?_ ?_) | assumption | exact Ne.symm (by assumption))); done) | simp [e2])
        · rw [if_neg e]; exact .inl rfl
    refine h { r0 with rows := r0.rows ++ [q0] } q0 (onNum ps r0.num (· ++ [q0])) v' h' _ Po hP3 (List.mem_map.mpr ⟨r0, hr, by rw [if_pos rfl]⟩) (by first | exact nin_nil | exact all_nil | ((repeat (first | exact .head _ | refine .tail _ ?_)); done) | simp) rfl rfl (fun a ha => List.mem_append.mp (hperm.mem_iff.mp ha)) ?_ (fun hl a b c h => ⟨by simpa [onNum] using h.1, fun r hr' => ?_⟩) (fun n path o => ?_)
    · refine hperm.nodup_iff.mpr ?_
      rw [List.nodup_append]
      exact ⟨hna, hq0, fun a ha b hb e => hdis b hb (e ▸ ha)⟩
    · obtain ⟨r1, h1, rfl⟩ := List.mem_map.mp hr'
      obtain ⟨b1, b2⟩ := h.2 r1 h1
      by_cases e : r1.num = r0.num
      · rw [if_pos e]
        refine ⟨by simp; (first | exact ar1 b1 | lia), fun q hq => (List.mem_append.mp hq).elim (b2 q) fun z => ?_⟩
        rw [List.mem_singleton.mp z, h0r, h0w]
        exact ⟨hl, Nat.zero_le _, Nat.zero_le _⟩
      · rw [if_neg e]; exact ⟨Nat.le_succ_of_le b1, b2⟩
    · unfold Wf Rf
      rcases hsem n path with q | ⟨q1, q2⟩
      · rw [q]; exact ⟨rfl, rfl⟩
      · rw [q1, q2]
        simp [h0r, h0w, cnt]
end
theorem all_nodup {ps : List RwA} {r0 : RwA} (hn : (allOf ps).Nodup) (hr : r0 ∈ ps) : r0.all.Nodup := by
  induction ps with
  | nil => cases hr
  | cons x ps ih =>
    rw [allOf_cons, List.nodup_append] at hn
    rcases List.mem_cons.mp hr with e | h
    · rw [e]; exact hn.1
    · exact ih hn.2.1 h
theorem disj_rows {rows : List PlA} {q q0 : PlA} {a : Addr} (hn : (rows.flatMap PlA.all).Nodup) (hq : q ∈ rows) (hq0 : q0 ∈ rows) (hne : q.path ≠ q0.path) (ha : a ∈ q.all) (hb : a ∈ q0.all) : False := by
  induction rows with
  | nil => cases hq
  | cons x rows ih =>
    rw [List.flatMap_cons, List.nodup_append] at hn
    rcases List.mem_cons.mp hq with e1 | h1
    · rcases List.mem_cons.mp hq0 with e2 | h2
      · exact hne (by rw [e1, e2])
      · exact hn.2.2 a (e1 ▸ ha) a (List.mem_flatMap.mpr ⟨q0, h2, hb⟩) rfl
    · rcases List.mem_cons.mp hq0 with e2 | h2
      · exact hn.2.2 a (e2 ▸ hb) a (List.mem_flatMap.mpr ⟨q, h1, ha⟩) rfl
      · exact ih hn.2.1 h1 h2
theorem row_nodup {rows : List PlA} {q : PlA} (hn : (rows.flatMap PlA.all).Nodup) (hq : q ∈ rows) : q.all.Nodup := by
  induction rows with
  | nil => cases hq
  | cons x rows ih =>
    rw [List.flatMap_cons, List.nodup_append] at hn
    rcases List.mem_cons.mp hq with e | h
    · rw [e]; exact hn.1
    · exact ih hn.2.1 h
/-- the counts' dict of a place: the writes' or the reads' -/
noncomputable def PlA.tgt (q : PlA) (wr : Bool) : Addr := if wr then q.Wr else q.Rd
noncomputable def PlA.put (q : PlA) (wr : Bool) (g x : Int) : PlA := if wr then { q with wc := storeI q.wc g x } else { q with rc := storeI q.rc g x }
noncomputable def PlA.cs (q : PlA) (wr : Bool) : List (Int × Int) := if wr then q.wc else q.rc
theorem put_all (q : PlA) (wr : Bool) (g x : Int) : (q.put wr g x).all = q.all ∧ (q.put wr g x).path = q.path ∧ entOf (q.put wr g x) = entOf q := by
  unfold PlA.put
  cases wr <;> exact ⟨rfl, rfl, rfl⟩
section
variable {w : World} {A : Around} {E : Value → Shared → Prop} {s : Shared} {vs : Heap} {P : Addr} {ps : List RwA}
theorem PlaceAt.cs {q : PlA} (x : PlaceAt w vs q) (wr : Bool) : IntD PG w vs (q.tgt wr) (q.cs wr) ∧ (q.tgt wr == sysModules) = false := by
  cases wr
  · exact x.2.2.1
  · exact x.2.2.2
theorem tgt_mem (q : PlA) (wr : Bool) : q.tgt wr ∈ q.all := by cases wr <;> simp [PlA.tgt, PlA.all]
theorem set_count {r : RwA} {q : PlA} {wr : Bool} {g x : Int} {t u : Tok} {Q : Unit → Shared → Prop} (DP : PlacesAt w vs P ps) (V : Sub vs s.heap) (hr : r ∈ ps) (hq : q ∈ r.rows) (hPa : P ∉ allOf ps) (hna : (allOf ps).Nodup) (hlen : (q.cs wr).length ≤ 1000)
    (h : ∀ ps' v' h', Post s.heap vs v' h' [q.tgt wr] → PlacesAt w v' P ps' → allOf ps' = allOf ps → (∀ a b c, BD a b c ps → BD a b (c + 1) ps') →
      (∀ n path o, Wf ps' n path o = (if wr = true ∧ n = r.num ∧ path = q.path ∧ o = g then x else Wf ps n path o) ∧ Rf ps' n path o = (if wr = false ∧ n = r.num ∧ path = q.path ∧ o = g then x else Rf ps n path o)) → Q () { s with heap := h', toks := s.toks + 1 }) :
    wpAny (model PG w) A (PySem.setItem (.ref (q.tgt wr)) (.int g t) (.int x u)) Q E s := by
  have nums := DP.nums
  have hR := DP.2.2 r hr
  have paths := hR.paths
  have hQ := hR.2.2 q hq
  obtain ⟨hD, hlo⟩ := hQ.cs wr
  have nt := hD.noTup
  have hall := all_nodup hna hr
  rw [RwA.all, List.nodup_cons] at hall
  have htr : q.tgt wr ∈ r.rows.flatMap PlA.all := List.mem_flatMap.mpr ⟨q, hq, tgt_mem q wr⟩
  have hta : q.tgt wr ∈ allOf ps := List.mem_flatMap.mpr ⟨r, hr, List.mem_cons_of_mem _ htr⟩
  refine IntD.setItem (hD.up fun o e => V _ _ e) (by rw [sizeLine_eq]; (first | exact ar4 hlen | lia)) fun h' hD' hk => ?_
  refine Mine.byv fun P_ kP_ => ?_
  obtain ⟨o, ho⟩ := hD'.alive
  obtain ⟨v', Po, hv'⟩ := Post.one V hD.alive hk ho
  refine kP_ ?_
  clear kP_ P_
  have hD2 : IntD PG w v' (q.tgt wr) (storeI (q.cs wr) g x) := hD'.on ho hv'
  have hq' : PlaceAt w v' (q.put wr g x) := by
    have hn := row_nodup hall.2 hq
    simp only [PlA.all, List.nodup_cons, List.mem_cons, List.not_mem_nil, or_false, not_or, not_false_eq_true, List.nodup_nil, and_true] at hn
    refine Mine.byv fun P_ kP_ => ?_
    obtain ⟨a, ⟨t1, t2, I⟩, ⟨b, lb⟩, c, lc⟩ := hQ
    refine kP_ ?_
    clear kP_ P_
    have a' := a.keeps Po.keeps nt
    cases wr with
    | true =>
      simp only [PlA.tgt, if_true] at Po hD2
      exact ⟨a', ⟨t1, t2, InstAt.keeps' I Po.keeps (by simpa [PlA.put] using hn.1.2.2) (fun a e => Mine.dict_nin e (by simpa [PlA.put] using hn.2.1.2))⟩, ⟨b.up fun o e => Po.keeps _ _ (by first | exact Mine.nin1 (hn.2.2) | exact Mine.all1 (hn.2.2) | simpa using hn.2.2) e, lb⟩, hD2, lc⟩
    | false =>
      simp only [PlA.tgt, Bool.false_eq_true, if_false] at Po hD2
      exact ⟨a', ⟨t1, t2, InstAt.keeps' I Po.keeps (by simpa [PlA.put] using hn.1.2.1) (fun a e => Mine.dict_nin e (by simpa [PlA.put] using hn.2.1.1))⟩, ⟨hD2, lb⟩, c.up fun o e => Po.keeps _ _ (by first | exact Mine.nin1 (Ne.symm hn.2.2) | exact Mine.all1 (Ne.symm hn.2.2) | simpa using Ne.symm hn.2.2) e, lc⟩
  have hR' : RowsAt w v' { r with rows := r.rows.map fun q' => if q'.path = q.path then q'.put wr g x else q' } := by
    have hents : (r.rows.map fun q' => if q'.path = q.path then q'.put wr g x else q').map entOf = r.rows.map entOf := by
      rw [List.map_map]
      exact List.map_congr_left fun q' _ => by
        dsimp only [Function.comp]
        split
        · exact (put_all q' wr g x).2.2
        · rfl
    have hpl : ∀ q' ∈ r.rows.map (fun q' => if q'.path = q.path then q'.put wr g x else q'), PlaceAt w v' q' := fun y hy => by
      obtain ⟨q', hq2, rfl⟩ := List.mem_map.mp hy
      by_cases e : q'.path = q.path
      · have : q' = q := by
          have e1 := find_path paths hq2
          have e2 := find_path paths hq
          rw [e, e2] at e1
          exact (Option.some.inj e1).symm
        rw [if_pos e, this]; exact hq'
      · rw [if_neg e]
        exact (hR.2.2 q' hq2).keeps Po.keeps (fun a ha m => disj_rows hall.2 hq2 hq e ha (by rw [List.mem_singleton.mp m]; exact tgt_mem q wr)) nt
    refine ⟨?_, hR.2.1, hpl⟩
    rw [hents]
    refine dictH_at hR.1 (fun y hy => ?_) fun o e => Po.keeps _ _ (fun m => hall.1 (by rw [List.mem_singleton.mp m]; exact htr)) e
    obtain ⟨q', hq2, rfl⟩ := List.mem_map.mp hy
    exact ((hR.2.2 q' hq2).1.keeps Po.keeps nt).key
  have hP' := DP.turn (f := List.map fun q' => if q'.path = q.path then q'.put wr g x else q') hr Po.keeps (fun m => hPa (by rw [List.mem_singleton.mp m]; exact hta)) (fun r' h1 h2 a ha m => disj_all hna h1 hr h2 ha (by rw [List.mem_singleton.mp m]; exact List.mem_cons_of_mem _ htr)) nt hR'
  have hpo : ∀ n path, placeOf (onNum ps r.num (List.map fun q' => if q'.path = q.path then q'.put wr g x else q')) n path = (placeOf ps n path).map fun q' => if n = r.num ∧ path = q.path then q'.put wr g x else q' := fun n path => by
    rw [placeOf_onNum]
    unfold placeOf
    cases hf : ps.find? (fun r => r.num = n) with
    | none => rfl
    | some r' =>
      have hrn : r'.num = n := by simpa using List.find?_some hf
      dsimp only [Option.bind_some]
      by_cases e : r'.num = r.num
      · rw [if_pos e]
        have en : n = r.num := by rw [← hrn, e]
        have gen : ∀ rows : List PlA, (rows.map fun q' => if q'.path = q.path then q'.put wr g x else q').find? (fun q => q.path = path) = (rows.find? (fun q => q.path = path)).map fun q' => if n = r.num ∧ path = q.path then q'.put wr g x else q' := fun rows => by
          induction rows with
          | nil => rfl
          | cons y rows ih =>
            have ep : (if y.path = q.path then y.put wr g x else y).path = y.path := by split; exact (put_all y wr g x).2.1; rfl
            rw [List.map_cons, List.find?_cons, List.find?_cons, ep]
            by_cases e3 : y.path = path
            · simp [e3, en]
            · simp only [e3, decide_false]; exact ih
        exact gen r'.rows
      · rw [if_neg e]
        have en : ¬ n = r.num := fun q => e (by rw [hrn, q])
        simp [en]
  refine h _ v' h' Po hP' (allOf_same ps r.num _ fun q' => by split; exact (put_all q' wr g x).1; rfl) (fun a b c h => ⟨by simpa [onNum] using h.1, fun r' hr' => ?_⟩) fun n path o => ?_
  · obtain ⟨r1, h1, rfl⟩ := List.mem_map.mp hr'
    obtain ⟨b1, b2⟩ := h.2 r1 h1
    by_cases e : r1.num = r.num
    · rw [if_pos e]
      refine ⟨by simpa using b1, fun y hy => ?_⟩
      refine Mine.byv fun P_ kP_ => ?_
      obtain ⟨y0, hy0, rfl⟩ := List.mem_map.mp hy
      obtain ⟨c1, c2, c3⟩ := b2 y0 hy0
      refine kP_ ?_
      clear kP_ P_
      have l1 := storeI_length y0.rc g x
      have l2 := storeI_length y0.wc g x
      split
      · refine ⟨by rw [(put_all y0 wr g x).2.1]; exact c1, ?_, ?_⟩ <;> (unfold PlA.put; split <;> dsimp only <;> lia)
      · exact ⟨c1, by (first | exact ar14 c2 | lia), by (first | exact ar14 c3 | lia)⟩
    · rw [if_neg e]; exact ⟨b1, fun q hq => ⟨(b2 q hq).1, Nat.le_succ_of_le (b2 q hq).2.1, Nat.le_succ_of_le (b2 q hq).2.2⟩⟩
  unfold Wf Rf
  rw [hpo]
  by_cases e : n = r.num ∧ path = q.path
  · have hpl : placeOf ps n path = some q := by rw [e.1, e.2]; exact placeOf_at nums hr paths hq
    rw [hpl]
    simp only [Option.map_some, Option.getD_some, e, and_self, if_true]
    cases wr with
    | true => simp [PlA.put, cnt_storeI]
    | false => simp [PlA.put, cnt_storeI]
  · have e1 : ∀ (b : Bool) (o' : Int), ¬ (wr = b ∧ n = r.num ∧ path = q.path ∧ o = o') := fun b o' h => e ⟨h.2.1, h.2.2.1⟩
    rw [if_neg (e1 _ _), if_neg (e1 _ _)]
    cases placeOf ps n path with
    | none => exact ⟨rfl, rfl⟩
    | some y => simp [e]
end
local macro_rules | `(tactic| walk_at "Kut next") => `(tactic| refine kut_next (by assumption) ?_)
theorem allLt_mem {d : Addr} : ∀ {l : List (Addr × Obj)}, AllLt d l → ∀ p ∈ l, p.1 ≠ d
  | [], _, p, hp => by cases hp
  | q :: r, h, p, hp => by
    rcases Mine.mem_sym hp with rfl | hp
    · exact Nat.ne_of_lt h.1
    · exact allLt_mem h.2 p hp
theorem DatsH.through {h v : Heap} (f : ∀ r d, DatH h r d → DatH v r d) : ∀ {vs : List Value} {ds : List Dat}, DatsH h vs ds → DatsH v vs ds
  | [], ds, x => by
    have := x.length
    obtain rfl : ds = [] := List.length_eq_zero_iff.mp this.symm
    exact DatsH.nil v
  | _ :: _, _, x => by
    refine Mine.byv fun P_ kP_ => ?_
    obtain ⟨d, ds', rfl, hd, hs⟩ := x.uncons
    refine kP_ ?_
    clear kP_ P_
    exact DatsH.cons (f _ _ hd) (DatsH.through f hs)
/-- the row d is told when path is looked at and kk is one of the places -/
noncomputable def Hit (ps : List RwA) (num gI : Int) (path : List Int) (word : Str) (c : List (Int × Int)) (kk : List Int) (d : Dat) : Prop :=
  meetB kk path = true ∧ ∃ o, o ≠ gI ∧ ((Wf ps num kk o > cnt c o ∧ d = rowD gI num path word o writeW) ∨ (word = writeW ∧ Rf ps num kk o > cnt c o ∧ d = rowD gI num path word o readW))
theorem mem_step {α : Type} {rs rsi rsj : List Dat} {ks : List α} {i : Nat} {kk : α} {H : α → Dat → Prop} (hko : ks[i]? = some kk) (hmem : ∀ d, d ∈ rsi ↔ d ∈ rs ∨ ∃ o ∈ ks.take i, H o d)
    (h : ∀ d, d ∈ rsj ↔ d ∈ rsi ∨ H kk d) : ∀ d, d ∈ rsj ↔ d ∈ rs ∨ ∃ o ∈ ks.take (i + 1), H o d := by
  intro d
  rw [h d, hmem d, List.take_add_one, hko]
  constructor
  · intro hp0_
    obtain ((h | ⟨o', h1, h2⟩) | h) := hp0_
    · exact .inl h
    · exact .inr ⟨o', List.mem_append_left _ h1, h2⟩
    · exact .inr ⟨kk, by simp, h⟩
  · intro hp0_
    obtain (h | ⟨o', h1, h2⟩) := hp0_
    · exact .inl (.inl h)
    · rcases List.mem_append.mp h1 with h1 | h1
      · exact .inl (.inr ⟨o', h1, h2⟩)
      · have : o' = kk := by simpa using h1
        subst this
        exact .inr h2
theorem atKey_row {rows : List PlA} {q : PlA} (hn : (rows.map (·.path)).Nodup) (hq : q ∈ rows) : atKey (rows.map entOf) q.path = some (q.key, .ref q.x) := by
  rcases atKey_map (k := q.path) hn with ⟨_, h2⟩ | ⟨q', hq', e, h1⟩
  · exact absurd rfl (h2 q hq)
  · have e1 := find_path hn hq
    have e2 := find_path hn hq'
    rw [e, e1] at e2
    cases e2
    exact h1
theorem cnt_has {c : List (Int × Int)} {o : Int} (h : cnt c o ≠ 0) : ∃ k, (o, k) ∈ c := Classical.byContradiction fun n => h (cnt_zero fun p hp e => n ⟨p.2, by rw [← e]; exact hp⟩)
theorem qmem {ps : List RwA} {r : RwA} {q : PlA} {a : Addr} (hr : r ∈ ps) (hq : q ∈ r.rows) (ha : a ∈ q.all) : a ∈ allOf ps := List.mem_flatMap.mpr ⟨r, hr, List.mem_cons_of_mem _ (List.mem_flatMap.mpr ⟨q, hq, ha⟩)⟩
theorem readW_ne : (readW = writeW) = False ∧ (writeW = readW) = False := ⟨eq_false (by decide), eq_false (by decide)⟩
theorem emptyRows {prog : Program} {w : World} {h : Heap} {d : Addr} {o : Obj} (e : h.get? d = some o) (x : Obj.IsDictOf (intKind prog w) o []) : h.DictOfH (tupleKind (intKind prog w)) d [] := by
  refine Mine.byv fun P_ kP_ => ?_
  obtain ⟨es, ep, hc, hd, hk, hp, hn⟩ := x
  refine kP_ ?_
  clear kP_ P_
  have : es.toList = [] := by
    generalize es.toList = l at hp
    cases hp; rfl
  exact ⟨o, es, ep, e, hc, hd, by rw [this]; rfl, by simp, by simp⟩
structure Nd5 (W d C P R : Addr) (al : List Addr) : Prop where
  Wd : W ≠ d
  WC : W ≠ C
  WP : W ≠ P
  WR : W ≠ R
  Wa : W ∉ al
  dC : d ≠ C
  dP : d ≠ P
  dR : d ≠ R
  da : d ∉ al
  CP : C ≠ P
  CR : C ≠ R
  Ca : C ∉ al
  PR : P ≠ R
  Pa : P ∉ al
  Ra : R ∉ al
  na : al.Nodup
theorem nd5 {W d C P R : Addr} {al : List Addr} (hnd : (W :: d :: C :: P :: R :: al).Nodup) : Nd5 W d C P R al := by
  simp only [List.nodup_cons, List.mem_cons, not_or] at hnd
  obtain ⟨⟨hWd, hWC, hWP, hWR, hWa⟩, ⟨hdC, hdP, hdR, hda⟩, ⟨hCP, hCR, hCa⟩, ⟨hPR, hPa⟩, hRa, hna⟩ := hnd
  exact ⟨hWd, hWC, hWP, hWR, hWa, hdC, hdP, hdR, hda, hCP, hCR, hCa, hPR, hPa, hRa, hna⟩
inductive LookJ (w : World) (h₀ s0 v g : Heap) (L W d C Ln G P R : Addr) (t1 t2 t3 t4 t5 : Tok) (l tl ka : Addr) (out : List Value) (k : Nat) (ps ps2 : List RwA) (num : Int) (path : List Int) (n m : Nat) (cm : Int → Option (List (Int × Int))) (rs : List Dat) (ks : List (List Int)) (gI : Int) (word : Str) (c : List (Int × Int)) (m0 : Str → Option Value) (i : Nat) (mm : Str → Option Value) (own : List (Addr × Obj)) : Prop
  | mk (vi : Heap) (rsi : List Dat) (Z : Ctx h₀ s0 v ([C, R, P] ++ allOf ps) g L own vi) (hl : vi.get? l = some (seqObj "list" out.toArray k)) (DP : PlacesAt w vi P ps2) (D : CM w vi C (n + 2 * i) cm) (DR : RacesAt vi R rsi) (hlv : DatH vi (.ref tl) (locD num path)) (hpv : DatH vi (.ref ka) (pathD path)) (hout : DatsH vi out (ks.map pathD))
    (I : InstAt vi W (instObj 227 d) 227 (some (watchD w t1 t2 t3 t4 t5 C Ln G P R))) (hlen : rsi.length ≤ rs.length + 2 * m * i) (ok : ∀ d ∈ rsi, kqdOk 8 d = true) (nd : rs.Nodup → rsi.Nodup) (mem : ∀ d, d ∈ rsi ↔ d ∈ rs ∨ ∃ kk ∈ ks.take i, Hit ps2 num gI path word c kk d) (hm : Same ["other"] mm m0)
section
variable {p : Program} {loose : List Str} {mg mb : Str → Option Value} {w : World} {dp un : Nat} {fr : Option (List Env)} {gd : Option (List Code)} {h₀ v : Heap} {s : Shared} {Q : Value → Shared → Prop}
theorem look_call (X : (hd.heap_1 w.params).In h₀) (T : TopRead p loose mg mb h₀) (H : Sub h₀ v) (V : Sub v s.heap) (hdp : dp + 7 < recursionLimit) (hun : un + 140 < cLine)
  {W d C Ln G P R : Addr} {t1 t2 t3 t4 t5 : Tok} (I : InstAt v W (instObj 227 d) 227 (some (watchD w t1 t2 t3 t4 t5 C Ln G P R))) {ps : List RwA} (hnd : (W :: d :: C :: P :: R :: allOf ps).Nodup) (hoff : ∀ x ∈ [C, R, P] ++ allOf ps, h₀.get? x = none)
  {gI num : Int} {path : List Int} {word : Str} (hw : word = readW ∨ word = writeW) {lv : Value} {tg tw : Tok} {c : List (Int × Int)} {n m : Nat} {cm : Int → Option (List (Int × Int))} {rs : List Dat}
  (hlv : DatH v lv (locD num path)) (D : CM w v C n cm) (hcm : cm gI = some c) (hc : KOk c) (DR : RacesAt v R rs) (DP : PlacesAt w v P ps) (ok : ∀ d ∈ rs, kqdOk 8 d = true)
  (hpl : path.length ≤ 10) (hm : m ≤ 20) (hbd : BD m m m ps) (hn : n + 2 * m ≤ 990) (hrs : rs.length + 2 * m * m ≤ 40000)
  (ret : ∀ ps' rs' v' h' tk', Post s.heap v v' h' ([C, R, P] ++ allOf ps) → CM w v' C (n + 2 * m + 1) cm → RacesAt v' R rs' → PlacesAt w v' P ps' → (∀ a ∈ allOf ps', a ∈ allOf ps ∨ s.heap.get? a = none) → (allOf ps').Nodup → BD (m + 1) (m + 1) (m + 1) ps' → rs'.length ≤ rs.length + 2 * m * m → (∀ d ∈ rs', kqdOk 8 d = true) → (rs.Nodup → rs'.Nodup) →
    (∀ d, d ∈ rs' ↔ d ∈ rs ∨ ∃ kk, Hit ps num gI path word c kk d) →
    (∀ n' path' o, Wf ps' n' path' o = (if word = writeW ∧ n' = num ∧ path' = path ∧ o = gI then cnt c gI else Wf ps n' path' o) ∧ Rf ps' n' path' o = (if word = readW ∧ n' = num ∧ path' = path ∧ o = gI then cnt c gI else Rf ps n' path' o)) → Q .none {s with heap := h', toks := tk'}) :
  wpAny (model PySem.Challenge.rw_on0014_01.prog w) (Ar dp fr gd un) (call (.ref 217) [.ref W, .int gI tg, lv, .str word tw]) Q (fun _ _ => False) s := by
  refine Mine.byv fun P_ kP_ => ?_
  obtain ⟨tl, vl, nl, rfl, htl, hvl⟩ := id hlv.untuple
  obtain ⟨v1, pv, rfl, hv1, hpv⟩ := hvl.two
  obtain ⟨tn, rfl⟩ := hv1.unint
  obtain ⟨ka, kvs, kn, rfl, hka, hkvs⟩ := id hpv.untuple
  refine kP_ ?_
  clear kP_ P_
  have hal : ∀ x ∈ [C, R, P] ++ allOf ps, ∃ o, v.get? x = some o := by
    intro x hx
    simp only [List.cons_append, List.nil_append, List.mem_cons] at hx
    rcases hx with q_ | q_ | hx
    · cases q_; exact D.alive
    · cases q_; exact DR.alive
    · exact DP.alive x (by first | exact Mine.nin1 (hx) | exact Mine.all1 (hx) | simpa using hx)
  obtain ⟨hWd, hWC, hWP, hWR, hWa, hdC, hdP, hdR, hda, hCP, hCR, hCa, hPR, hPa, hRa, hna⟩ := nd5 hnd
  have X0 := X
  have T0 := T
  revert X; k_fill; intro X
  refine wpAny_call ?_
  k_dflt (refine' into (f := 217) ([C, R, P] ++ allOf ps) [("self", .ref W), ("goroutine", .int gI tg), ("location", .ref tl), ("word", .str word tw)] X T H V ?o1 ?o2 ?k1 ?k2 ?k3 ?k4 ?k5 ?k6 ?k7 ?k8 ?k9 ?_; (case o1 => exact hoff); (case o2 => exact hal); (case k1 => k_is); (case k2 => k_is); (case k3 => first | exact Nat.lt_of_le_of_lt (Nat.le_add_right _ _) hdp | lia); (case k4 => rfl); (case k5 => exact locs rfl); (case k6 => decide); (case k7 => rfl); (case k8 => rfl); (case k9 => rfl))
  intro g L h₁ fr' own A' e_ s1_ m0 Z F N Xg Tg
  have IG : InstAt g W (instObj 227 d) 227 (some (watchD w t1 t2 t3 t4 t5 C Ln G P R)) := InstAt.keeps' I (fun b o n e => Z.hk b o n (V b o e)) (by first | ((repeat' (first | exact nin_nil | exact all_nil | (refine nin_cons ?_ ?_) | (refine all_cons ?_ ?_) | assumption | exact Ne.symm (by assumption))); done) | simp [hWC, hWR, hWP, hWa]) (fun a e => Mine.dict_nin e (by first | ((repeat' (first | exact nin_nil | exact all_nil | (refine nin_cons ?_ ?_) | (refine all_cons ?_ ?_) | assumption | exact Ne.symm (by assumption))); done) | simp [hdC, hdR, hdP, hda]))
  iterate 3 walk1
  refine assign_tuple rfl F N (Z.sub F N (fun _ h => h) _ _ htl) rfl rfl ?_
  intro h1 F1 N1
  (try clear F); (try clear N)
  iterate 15 walk1
  rename Fr g L _ _ => F2
  rename News g L _ own => N2
  refine dict_method (DP.1.keep (Z.sub F2 N2 fun _ h => h)) PySem.F.slot_dict_setdefault PySem.F.type_dict_setdefault ?_
  iterate 6 walk1
  rename Fr g L _ _ => F3
  rename News g L _ (_ :: own) => N3
  have hlt' := ‹∀ p ∈ own, p.1 < _›
  have hlt : ∀ p ∈ own, p.1 ≠ _ := fun p hp => Nat.ne_of_lt (hlt' p hp)
  have hdict := ‹Obj.IsDictOf (intKind _ w) _ []›
  refine Z.growK F3 N3 (fun p hp => .tail _ hp) fun va  Z3  ka1  ka2  ka3 => ?_
  have hgnd := (N3 _ (.head _)).2.2
  have hnew : ∀ a ∈ [C, R, P] ++ allOf ps, a ≠ _ := fun a ha => by
    obtain ⟨o, ho⟩ := hal a ha
    exact hlt _ ((Z.look a o ho).2.resolve_left (by rw [Z.offg a ha]; exact fun e => by cases e))
  refine setdef_places (DP.up ka1) ka2 (emptyRows (ka3 _ (.head _)) hdict) (by assumption) (Ne.symm (hnew P (by first | exact nin_nil | exact all_nil | ((repeat (first | exact .head _ | refine .tail _ ?_)); done) | simp))) (fun q => hnew _ (by first | ((repeat' (first | exact nin_nil | exact all_nil | (refine nin_cons ?_ ?_) | (refine all_cons ?_ ?_) | assumption | exact Ne.symm (by assumption))); done) | simp [q]) rfl) hPa hna (by have := hbd.1; (first | exact ar87 hm this | lia)) fun r0 ps2 v4 h4 tk4 P4 DP4 hr0 hr0n hlen4 hall4 hna4 hpo4 hold4 hin4 => ?_
  refine Z3.backK F3 N3 P4 (by first | exact Mine.nin1 (Z.offg P (by first | exact nin_nil | exact all_nil | ((repeat (first | exact .head _ | refine .tail _ ?_)); done) | simp)) | exact Mine.all1 (Z.offg P (by first | exact nin_nil | exact all_nil | ((repeat (first | exact .head _ | refine .tail _ ?_)); done) | simp)) | simpa using Z.offg P (by first | exact nin_nil | exact all_nil | ((repeat (first | exact .head _ | refine .tail _ ?_)); done) | simp)) (by first | exact Mine.nin1 ((DP.up ka1).alive P (by first | exact nin_nil | exact all_nil | ((repeat (first | exact .head _ | refine .tail _ ?_)); done) | simp)) | exact Mine.all1 ((DP.up ka1).alive P (by first | exact nin_nil | exact all_nil | ((repeat (first | exact .head _ | refine .tail _ ?_)); done) | simp)) | simpa using (DP.up ka1).alive P (by first | exact nin_nil | exact all_nil | ((repeat (first | exact .head _ | refine .tail _ ?_)); done) | simp)) ?_
  intro own4 mm_ Z4  F4  N4
  (try (refine Mine.wp_let ?_; intro sQ2_))
  (try clear F1); (try clear N1); (try clear F2); (try clear N2); (try clear F3); (try clear N3)
  have ntP := dict_noTup (DP.up ka1).1
  have D4 := (D.up ka1).keeps P4.keeps (by first | exact Mine.nin1 (hCP) | exact Mine.all1 (hCP) | simpa using hCP) ntP
  have DR4 := (DR.up ka1).keeps P4.keeps (by first | exact Mine.nin1 (Ne.symm hPR) | exact Mine.all1 (Ne.symm hPR) | simpa using Ne.symm hPR) ntP
  have hlv4 := (hlv.up ka1).keeps P4.keeps ntP
  have hpv4 := (hpv.up ka1).keeps P4.keeps ntP
  have I4 := InstAt.keeps' (InstAt.keeps' I (ka1.keeps []) (by first | exact nin_nil | exact all_nil | ((repeat (first | exact .head _ | refine .tail _ ?_)); done) | simp) (by first | exact nin_nil | exact all_nil | ((repeat (first | exact .head _ | refine .tail _ ?_)); done) | simp)) P4.keeps (by first | exact Mine.nin1 (hWP) | exact Mine.all1 (hWP) | simpa using hWP) (fun a e => Mine.dict_nin e (by first | exact Mine.nin1 (hdP) | exact Mine.all1 (hdP) | simpa using hdP))
  have hR0 := DP4.2.2 r0 hr0
  iterate 11 walk1
  rename Fr g L _ _ => F5
  rename News g L _ own4 => N5
  have V5 := Z4.sub F5 N5 fun _ h => h
  have hbd4 := hold4 m m m hbd
  have hrl : r0.rows.length ≤ m := (hbd4.2 r0 hr0).1
  refine rows_sorted (dictH_at hR0.1 (fun y hy => by obtain ⟨q, hq, rfl⟩ := List.mem_map.mp hy; exact ((hR0.2.2 q hq).1.up V5).key) fun o e => V5 _ _ e) (fun y hy => by obtain ⟨q, hq, rfl⟩ := List.mem_map.mp hy; exact (hR0.2.2 q hq).1.up V5) hR0.2.1 rfl (Mine.room hun) (by rw [List.length_map, sizeLine_eq]; (first | exact ar312 hm hrl | lia)) fun l out ks k h6 tk6 k6 hnl hol hd6 hperm => ?_
  rw [List.map_map] at hperm
  refine Z4.pureK F5 N5 k6 ?_
  intro v6 own6 mm_ Z6  F6  N6  kv6  kh6  hall6  hnew6
  (try (refine Mine.wp_let ?_; intro sQ3_))
  have hl6 := hnew6 _ _ hol hnl
  have hgl : g.get? l = none := none_of (Fr.toSub F5) hnl
  have hout6 := DatsH.through hall6 hd6
  have hkl : ks.length = r0.rows.length := by rw [hperm.length_eq, List.length_map]
  have hnotin : ∀ a ∈ [C, R, P], a ∉ allOf ps → a ∉ allOf ps2 := fun a ha h1 h2 => by
    rcases hall4 a h2 with z | z
    · exact h1 z
    · exact hnew a (List.mem_append_left _ ha) z
  have hC2 := hnotin C (by first | exact nin_nil | exact all_nil | ((repeat (first | exact .head _ | refine .tail _ ?_)); done) | simp) hCa
  have hR2 := hnotin R (by first | exact nin_nil | exact all_nil | ((repeat (first | exact .head _ | refine .tail _ ?_)); done) | simp) hRa
  have hP2 := hnotin P (by first | exact nin_nil | exact all_nil | ((repeat (first | exact .head _ | refine .tail _ ?_)); done) | simp) hPa
  have hplace : ∀ kk ∈ ks, ∃ q ∈ r0.rows, q.path = kk := fun kk hk => by
    obtain ⟨q, hq, e⟩ := List.mem_map.mp (hperm.mem_iff.mp hk)
    exact ⟨q, hq, e⟩
  have hlC : ∀ a, (∃ o, v4.get? a = some o) → l ≠ a := fun a ⟨o, ho⟩ e => by
    have := V5 _ _ ho
    rw [← e] at this
    (try dsimp only at hnl)
    rw [hnl] at this; cases this
  let J : Nat → (Str → Option Value) → List (Addr × Obj) → Prop := fun i mm own => LookJ w h₀ s.heap v g L W d C Ln G P R t1 t2 t3 t4 t5 l tl ka out k ps ps2 num path n m cm rs ks gI word c (fun y => if y = Str.ofString "rows" then some (.ref r0.addr) else if y = Str.ofString "path" then some (.ref ka) else if y = Str.ofString "number" then some (.int num tn) else List.lookup y [(Str.ofString "self", Value.ref W), (Str.ofString "goroutine", Value.int gI tg), (Str.ofString "location", .ref tl), (Str.ofString "word", Value.str word tw)].reverse) i mm own
  have hJ : ∀ i mm own, J i mm own ↔ LookJ w h₀ s.heap v g L W d C Ln G P R t1 t2 t3 t4 t5 l tl ka out k ps ps2 num path n m cm rs ks gI word c (fun y => if y = Str.ofString "rows" then some (.ref r0.addr) else if y = Str.ofString "path" then some (.ref ka) else if y = Str.ofString "number" then some (.int num tn) else List.lookup y [(Str.ofString "self", Value.ref W), (Str.ofString "goroutine", Value.int gI tg), (Str.ofString "location", .ref tl), (Str.ofString "word", Value.str word tw)].reverse) i mm own := fun _ _ _ => Iff.rfl
  refine ⟨l, out, _, k, g, _, own6, J,
    rfl, hol, .inr rfl, rfl, F6, N6, (hJ _ _ _).mpr ⟨v6, rs, Z6, hl6, DP4.up kv6, D4.up kv6, DR4.up kv6, hlv4.up kv6, hpv4.up kv6, hout6, InstAt.keeps' I4 (kv6.keeps []) (by first | exact nin_nil | exact all_nil | ((repeat (first | exact .head _ | refine .tail _ ?_)); done) | simp) (by first | exact nin_nil | exact all_nil | ((repeat (first | exact .head _ | refine .tail _ ?_)); done) | simp), by (first | exact ar251 | lia), ok, fun h => h, fun d => by simp, Same.refl _ _⟩, .inr ?stays, ?turn, ?done⟩
  case stays =>
    intro i m own hj
    refine Mine.byv fun P_ kP_ => ?_
    obtain ⟨vi, rsi, Zi, hli, _⟩ := (hJ _ _ _).mp hj
    refine kP_ ?_
    clear kP_ P_
    exact (Zi.look _ _ hli).2.resolve_left (by rw [hgl]; exact fun e => by cases e)
  case turn =>
    intro i v_ mm own Ia oI h tk hv hj F N hIo hcl
    refine Mine.byv fun P_ kP_ => ?_
    obtain ⟨vi, rsi, Zi, hli, DPi, Di, DRi, hlvi, hpvi, houti, Ii, hlen, oki, hnd, hmem, hsm⟩ := (hJ _ _ _).mp hj
    refine kP_ ?_
    clear kP_ P_
    clear hj
    refine Same.elimF hsm F ?_
    intro u' mm_ F
    have hil : i < ks.length := by
      have e1 := houti.length
      rw [List.length_map] at e1
      have := (List.getElem?_eq_some_iff.mp hv).1
      (first | exact ar106 e1 this | lia)
    obtain ⟨kv, e1, hkd⟩ := houti.get (k := i) (by first | exact Mine.nin1 (hil) | exact Mine.all1 (hil) | simpa using hil)
    rw [hv] at e1; cases e1
    rw [List.getElem_map] at hkd
    refine Mine.byv fun P_ kP_ => ?_
    obtain ⟨ko, kvs', kn', rfl, hko, _⟩ := id hkd.untuple
    refine kP_ ?_
    clear kP_ P_
    have hks : ks[i]? = some ks[i] := List.getElem?_eq_getElem hil
    obtain ⟨q, hq, hqp⟩ := hplace ks[i] (List.getElem_mem _)
    generalize ks[i] = kk at hkd hks hqp
    have nt := iter_noTup hcl
    have hql : q.path.length ≤ 10 := ((hbd4.2 r0 hr0).2 q hq).1
    iterate 15 walk1
    rename Fr g L _ _ => F7
    rename News g L _ ((Ia, oI) :: own) => N7
    have V7 := Zi.sub F7 N7 fun p hp => .tail _ hp
    refine meet_call Xg Tg (Fr.toSub F7) (Mine.room hdp) (Mine.room hun) (hkd.up V7) (hpvi.up V7) (by rw [← hqp]; (first | exact ar83 hpl hql | lia)) fun h8 tk8 k8 => ?_
    have F8 := Fr.use F7 (k8.keeps []) (by first | exact nin_nil | exact all_nil | ((repeat (first | exact .head _ | refine .tail _ ?_)); done) | simp) (by first | exact nin_nil | exact all_nil | ((repeat (first | exact .head _ | refine .tail _ ?_)); done) | simp)
    have N8 := News.use N7 (k8.keeps []) (by first | exact nin_nil | exact all_nil | ((repeat (first | exact .head _ | refine .tail _ ?_)); done) | simp)
    (try clear F); (try clear N); (try clear F7); (try clear N7)
    cases hmeet : meetB kk path with
    | false =>
      iterate 5 walk1
      have h2m : 2 * m * (i + 1) = 2 * m * i + 2 * m := Nat.mul_succ _ _
      refine ⟨_, _, _, own, rfl, by assumption, by assumption, hIo, (hJ _ _ _).mpr ⟨vi, rsi, Zi, hli, DPi, Di.mono (by (first | exact ar249 | lia)), DRi, hlvi, hpvi, houti, Ii, by (first | exact ar447 hlen h2m | lia), oki, hnd, mem_step hks hmem (fun d => ⟨.inl, fun z => z.elim id fun z => ?_⟩), Same.of.put _ _ rfl⟩⟩
      exact absurd z.1 (by rw [hmeet]; exact Bool.false_ne_true)
    | true =>
      iterate 19 walk1
      have V8 := Zi.sub F8 N8 fun p hp => .tail _ hp
      have hRi := DPi.2.2 r0 hr0
      refine Mine.byv fun P_ kP_ => ?_
      obtain ⟨_, ⟨u1, u2, Iq⟩, ⟨hRd, lRd⟩, hWr, lWr⟩ := hRi.2.2 q hq
      refine kP_ ?_
      clear kP_ P_
      refine subscriptTail_builtin (T := "dict") (dictH_at hRi.1 (fun y hy => by obtain ⟨q, hq, rfl⟩ := List.mem_map.mp hy; exact ((hRi.2.2 q hq).1.up V8).key) fun o e => V8 _ _ e).typeIs slot_dict_getitem.lookup
        (wpAny_getItem_heap (knd := tupleKind (intKind PG w)) (k := kk) (p := (q.key, .ref q.x)) (Mine.room hun) ((hkd.up V8).key) (dictH_at hRi.1 (fun y hy => by obtain ⟨q, hq, rfl⟩ := List.mem_map.mp hy; exact ((hRi.2.2 q hq).1.up V8).key) fun o e => V8 _ _ e) (by rw [← hqp]; exact atKey_row hR0.paths hq) ?_) (by with_unfolding_all rfl) (by intro _; with_unfolding_all rfl)
      iterate 5 walk1
      have hIN : ∀ a, (∃ o, vi.get? a = some o) → g.get? a = none → Ia ≠ a := fun a ⟨o, ho⟩ hg e => by
        have := (Zi.look a o ho).2.resolve_left (by rw [hg]; exact fun e => by cases e)
        exact hIo _ this e.symm
      have hgC := Zi.offg C (by first | exact nin_nil | exact all_nil | ((repeat (first | exact .head _ | refine .tail _ ?_)); done) | simp)
      have hgR := Zi.offg R (by first | exact nin_nil | exact all_nil | ((repeat (first | exact .head _ | refine .tail _ ?_)); done) | simp)
      have ntCR : NoTup vi [C, R] := NoTup.one (fun a ha => by
        rcases Mine.mem_sym ha with rfl | ha
        · exact Di.noTup
        · rw [List.mem_singleton.mp ha]; exact DRi.noTup)
      have hqm : q.rc.length ≤ m ∧ q.wc.length ≤ m := ((hbd4.2 r0 hr0).2 q hq).2
      have him : 2 * m * i + 2 * m ≤ 2 * m * m := by
        have := Nat.mul_le_mul_left (2 * m) (show i + 1 ≤ m by (first | exact ar428 hrl hkl hil | lia))
        rwa [Nat.mul_succ] at this
      have h2m : 2 * m * (i + 1) = 2 * m * i + 2 * m := Nat.mul_succ _ _
      have hwf : ∀ o, Wf ps2 num kk o = cnt q.wc o ∧ Rf ps2 num kk o = cnt q.rc o := fun o => by
        have := placeOf_at DP4.nums hr0 hR0.paths hq
        rw [hr0n, hqp] at this
        unfold Wf Rf
        rw [this]; exact ⟨rfl, rfl⟩
      have hqW : q.Wr ≠ C ∧ q.Wr ≠ R := ⟨fun e => hC2 (e ▸ qmem hr0 hq (by first | ((repeat' (first | exact nin_nil | exact all_nil | (refine nin_cons ?_ ?_) | (refine all_cons ?_ ?_) | assumption | exact Ne.symm (by assumption))); done) | simp [PlA.all])), fun e => hR2 (e ▸ qmem hr0 hq (by first | ((repeat' (first | exact nin_nil | exact all_nil | (refine nin_cons ?_ ?_) | (refine all_cons ?_ ?_) | assumption | exact Ne.symm (by assumption))); done) | simp [PlA.all]))⟩
      have hqR : q.Rd ≠ C ∧ q.Rd ≠ R := ⟨fun e => hC2 (e ▸ qmem hr0 hq (by first | ((repeat' (first | exact nin_nil | exact all_nil | (refine nin_cons ?_ ?_) | (refine all_cons ?_ ?_) | assumption | exact Ne.symm (by assumption))); done) | simp [PlA.all])), fun e => hR2 (e ▸ qmem hr0 hq (by first | ((repeat' (first | exact nin_nil | exact all_nil | (refine nin_cons ?_ ?_) | (refine all_cons ?_ ?_) | assumption | exact Ne.symm (by assumption))); done) | simp [PlA.all]))⟩
      rename Fr g L _ _ => F9
      rename News g L _ ((Ia, oI) :: own) => N9
      refine compare_call X0 T0 Zi.H (Zi.sub F9 N9 fun p hp => .tail _ hp) (Mine.room hdp) (Mine.room hun) Ii hWC hdC hWR hdR hCR (hoff C (by first | exact nin_nil | exact all_nil | ((repeat (first | exact .head _ | refine .tail _ ?_)); done) | simp)) (hoff R (by first | exact nin_nil | exact all_nil | ((repeat (first | exact .head _ | refine .tail _ ?_)); done) | simp)) hw (.inr rfl) hlvi hWr lWr hqW.1 hqW.2 Di (by (first | exact ar436 hn hrl hkl hil | lia)) hcm DRi (by lia) oki fun rs1 v9 h9 tk9 P9 D9 DR9 len9 ok9 nd9 mem9 => ?_
      refine Zi.backK F9 (fun p hp => N9 p (.tail _ hp)) P9 (by first | ((repeat' (first | exact nin_nil | exact all_nil | (refine nin_cons ?_ ?_) | (refine all_cons ?_ ?_) | assumption | exact Ne.symm (by assumption))); done) | simp [hgC, hgR]) (by first | ((repeat' (first | exact nin_nil | exact all_nil | (refine nin_cons ?_ ?_) | (refine all_cons ?_ ?_) | assumption | exact Ne.symm (by assumption))); done) | simp [Di.alive, DRi.alive]) ?_
      intro own9 mm_ Z9  F10  N10
      (try (refine Mine.wp_let ?_; intro sQ4_))
      have hIa9 := N9 (Ia, oI) (.head _)
      have hIcr : Ia ∉ [C, R] := by simp [hIN C Di.alive hgC, hIN R DRi.alive hgR]
      obtain ⟨N11, hno9⟩ := iter_back Zi Z9 P9 hIa9 hIo hIcr nt N10
      have DP9 := DPi.keeps P9.keeps (by first | ((repeat' (first | exact nin_nil | exact all_nil | (refine nin_cons ?_ ?_) | (refine all_cons ?_ ?_) | assumption | exact Ne.symm (by assumption))); done) | simp [Ne.symm hCP, hPR]) (fun a ha => by simp; exact ⟨fun e => hC2 (e ▸ ha), fun e => hR2 (e ▸ ha)⟩) ntCR
      have hlv9 := hlvi.keeps P9.keeps ntCR
      have hpv9 := hpvi.keeps P9.keeps ntCR
      have hout9 := houti.keeps P9.keeps ntCR
      have I9 := instPost Ii P9 (by first | ((repeat' (first | exact nin_nil | exact all_nil | (refine nin_cons ?_ ?_) | (refine all_cons ?_ ?_) | assumption | exact Ne.symm (by assumption))); done) | simp [hWC, hWR]) (fun a e => Mine.dict_nin e (by first | ((repeat' (first | exact nin_nil | exact all_nil | (refine nin_cons ?_ ?_) | (refine all_cons ?_ ?_) | assumption | exact Ne.symm (by assumption))); done) | simp [hdC, hdR]))
      have hli9 := P9.keeps _ _ (by first | ((repeat' (first | exact nin_nil | exact all_nil | (refine nin_cons ?_ ?_) | (refine all_cons ?_ ?_) | assumption | exact Ne.symm (by assumption))); done) | simp [hlC C D4.alive, hlC R DR4.alive]) hli
      (try clear F8); (try clear N8); (try clear F9); (try clear N9); (try clear N10)
      k_steps
      · rename_i hww
        rename Fr g L _ _ => F11
        rename News g L _ ((Ia, oI) :: own9) => N12
        have V11 := Z9.sub F11 N12 fun p hp => .tail _ hp
        have hRi9 := DP9.2.2 r0 hr0
        refine Mine.byv fun P_ kP_ => ?_
        obtain ⟨_, ⟨u3, u4, Iq9⟩, ⟨hRd9, _⟩, hWr9, _⟩ := hRi9.2.2 q hq
        refine kP_ ?_
        clear kP_ P_
        have hkd9 := hkd.keeps P9.keeps ntCR
        clear Iq
        refine subscriptTail_builtin (T := "dict") (dictH_at hRi9.1 (fun y hy => by obtain ⟨q, hq, rfl⟩ := List.mem_map.mp hy; exact ((hRi9.2.2 q hq).1.up V11).key) fun o e => V11 _ _ e).typeIs slot_dict_getitem.lookup
          (wpAny_getItem_heap (knd := tupleKind (intKind PG w)) (k := kk) (p := (q.key, .ref q.x)) (Mine.room hun) ((hkd9.up V11).key) (dictH_at hRi9.1 (fun y hy => by obtain ⟨q, hq, rfl⟩ := List.mem_map.mp hy; exact ((hRi9.2.2 q hq).1.up V11).key) fun o e => V11 _ _ e) (by rw [← hqp]; exact atKey_row hR0.paths hq) ?_) (by with_unfolding_all rfl) (by intro _; with_unfolding_all rfl)
        iterate 5 walk1
        rename Fr g L _ _ => F12
        rename News g L _ ((Ia, oI) :: own9) => N13
        have ntCR9 : NoTup v9 [C, R] := NoTup.one (fun a ha => by
          rcases Mine.mem_sym ha with rfl | ha
          · exact D9.noTup
          · rw [List.mem_singleton.mp ha]; exact DR9.noTup)
        refine compare_call X0 T0 Z9.H (Z9.sub F12 N13 fun p hp => .tail _ hp) (Mine.room hdp) (Mine.room hun) I9 hWC hdC hWR hdR hCR (hoff C (by first | exact nin_nil | exact all_nil | ((repeat (first | exact .head _ | refine .tail _ ?_)); done) | simp)) (hoff R (by first | exact nin_nil | exact all_nil | ((repeat (first | exact .head _ | refine .tail _ ?_)); done) | simp)) hw (.inl rfl) hlv9 hRd9 lRd hqR.1 hqR.2 D9 (by (first | exact ar435 hn hrl hkl hil | lia)) hcm DR9 (by lia) ok9 fun rs2 v10 h10 tk10 P10 D10 DR10 len10 ok10 nd10 mem10 => ?_
        refine Z9.backK F12 (fun p hp => N13 p (.tail _ hp)) P10 (by first | ((repeat' (first | exact nin_nil | exact all_nil | (refine nin_cons ?_ ?_) | (refine all_cons ?_ ?_) | assumption | exact Ne.symm (by assumption))); done) | simp [hgC, hgR]) (by first | ((repeat' (first | exact nin_nil | exact all_nil | (refine nin_cons ?_ ?_) | (refine all_cons ?_ ?_) | assumption | exact Ne.symm (by assumption))); done) | simp [D9.alive, DR9.alive]) ?_
        intro own10 mm_ Z10  F13  N14
        (try (refine Mine.wp_let ?_; intro sQ5_))
        have hIa10 := N13 (Ia, oI) (.head _)
        obtain ⟨N15, hno10⟩ := iter_back Z9 Z10 P10 hIa10 hno9 hIcr nt N14
        have DP10 := DP9.keeps P10.keeps (by first | ((repeat' (first | exact nin_nil | exact all_nil | (refine nin_cons ?_ ?_) | (refine all_cons ?_ ?_) | assumption | exact Ne.symm (by assumption))); done) | simp [Ne.symm hCP, hPR]) (fun a ha => by simp; exact ⟨fun e => hC2 (e ▸ ha), fun e => hR2 (e ▸ ha)⟩) ntCR9
        have hlv10 := hlv9.keeps P10.keeps ntCR9
        have hpv10 := hpv9.keeps P10.keeps ntCR9
        have hout10 := hout9.keeps P10.keeps ntCR9
        have I10 := instPost I9 P10 (by first | ((repeat' (first | exact nin_nil | exact all_nil | (refine nin_cons ?_ ?_) | (refine all_cons ?_ ?_) | assumption | exact Ne.symm (by assumption))); done) | simp [hWC, hWR]) (fun a e => Mine.dict_nin e (by first | ((repeat' (first | exact nin_nil | exact all_nil | (refine nin_cons ?_ ?_) | (refine all_cons ?_ ?_) | assumption | exact Ne.symm (by assumption))); done) | simp [hdC, hdR]))
        have hli10 := P10.keeps _ _ (by first | ((repeat' (first | exact nin_nil | exact all_nil | (refine nin_cons ?_ ?_) | (refine all_cons ?_ ?_) | assumption | exact Ne.symm (by assumption))); done) | simp [hlC C D4.alive, hlC R DR4.alive]) hli9
        (try clear F10); (try clear N11); (try clear F11); (try clear N12); (try clear F12); (try clear N13); (try clear N14)
        k_steps
        refine ⟨_, _, _, own10, rfl, by assumption, by assumption, hno10, (hJ _ _ _).mpr ⟨v10, rs2, Z10, hli10, DP10, D10.mono (by (first | exact ar247 | lia)), DR10, hlv10, hpv10, hout10, I10, by lia, ok10, fun h => nd10 (nd9 (hnd h)), mem_step hks hmem (fun d => ?_), Same.of.put _ _ rfl⟩⟩
        rw [mem10 d, mem9 d]
        constructor
        · intro hp0_
          obtain ((h | ⟨o, _, h1, h2, h3⟩) | ⟨o, _, h1, h2, h3⟩) := hp0_
          · exact .inl h
          · exact .inr ⟨hmeet, o, h1, .inl ⟨by rw [(hwf o).1]; exact h2, h3⟩⟩
          · exact .inr ⟨hmeet, o, h1, .inr ⟨by rcases hw with e | e; exact absurd (e ▸ hww) (by decide); exact e, by rw [(hwf o).2]; exact h2, h3⟩⟩
        · intro hp0_
          obtain (h | ⟨_, o, h1, (⟨h2, h3⟩ | ⟨_, h2, h3⟩)⟩) := hp0_
          · exact .inl (.inl h)
          · rw [(hwf o).1] at h2
            have := hc.nonneg o
            exact .inl (.inr ⟨o, cnt_has (by (first | exact ar22 h2 this | lia)), h1, h2, h3⟩)
          · rw [(hwf o).2] at h2
            have := hc.nonneg o
            exact .inr ⟨o, cnt_has (by (first | exact ar22 h2 this | lia)), h1, h2, h3⟩
      · rename_i hww
        refine ⟨_, _, _, own9, rfl, by assumption, by assumption, hno9, (hJ _ _ _).mpr ⟨v9, rs1, Z9, hli9, DP9, D9.mono (by (first | exact ar248 | lia)), DR9, hlv9, hpv9, hout9, I9, by lia, ok9, fun h => nd9 (hnd h), mem_step hks hmem (fun d => ?_), Same.of.put _ _ rfl⟩⟩
        rw [mem9 d]
        constructor
        · intro hp0_
          obtain (h | ⟨o, _, h1, h2, h3⟩) := hp0_
          · exact .inl h
          · exact .inr ⟨hmeet, o, h1, .inl ⟨by rw [(hwf o).1]; exact h2, h3⟩⟩
        · intro hp0_
          obtain (h | ⟨_, o, h1, (⟨h2, h3⟩ | ⟨h0, h2, h3⟩)⟩) := hp0_
          · exact .inl h
          · rw [(hwf o).1] at h2
            have := hc.nonneg o
            exact .inr ⟨o, cnt_has (by (first | exact ar22 h2 this | lia)), h1, h2, h3⟩
          · exact absurd hww (by rw [h0]; decide)
  case done =>
    intro mm own h tk hj F N
    refine Mine.byv fun P_ kP_ => ?_
    obtain ⟨vi, rsi, Zi, hli, DPi, Di, DRi, hlvi, hpvi, houti, Ii, hlen, oki, hndi, hmem, hsm⟩ := (hJ _ _ _).mp hj
    refine kP_ ?_
    clear kP_ P_
    clear hj
    have hol' : out.length = ks.length := by
      have e1 := houti.length
      rwa [List.length_map] at e1
    rw [hol', List.take_length] at hmem
    rw [hol'] at hlen Di
    refine Same.elimF hsm F ?_
    intro u' mm_ F
    have Vi := Zi.sub F N fun _ h => h
    have hRi := DPi.2.2 r0 hr0
    have hDH := dictH_at hRi.1 (fun y hy => by obtain ⟨q, hq, rfl⟩ := List.mem_map.mp hy; exact ((hRi.2.2 q hq).1.up Vi).key) fun o e => Vi _ _ e
    iterate 5 walk1
    refine getMethod_builtin (T := "dict") hDH.typeIs PySem.F.plainAttrs_dict PySem.F.slot_dict_setdefault PySem.F.type_dict_setdefault (dictOfH_noDict hDH) ?_
    iterate 7 walk1
    rename Fr g L _ _ => F7
    rename News g L _ own => N7
    have V7 := Zi.sub F7 N7 fun _ h => h
    refine place_new Xg Tg (Fr.toSub F7) (Mine.room hdp) (Mine.room hun) fun x dx Rd Wr u1 u2 h8 tk8 k8 hno hnd8 ox od hRd hWr lRd lWr => ?_
    refine Zi.pureK F7 N7 k8 ?_
    intro v8 own8 mm_ Z8  F8  N8  kv8  kh8  hall8  hnew8
    (try (refine Mine.wp_let ?_; intro sQ6_))
    have hdead : ∀ a ∈ [x, dx, Rd, Wr], ∀ b o, vi.get? b = some o → a ≠ b := fun a ha b o e q => by
      have e1 := hno a ha
      rw [q] at e1
      have e2 := V7 _ _ e
      (try dsimp only at e1)
      rw [e2] at e1; cases e1
    have hRdV : IntD PG w v8 Rd [] := by
      obtain ⟨o, ho⟩ := hRd.alive
      exact hRd.on ho (hnew8 _ _ ho (hno Rd (by first | exact nin_nil | exact all_nil | ((repeat (first | exact .head _ | refine .tail _ ?_)); done) | simp)))
    have hWrV : IntD PG w v8 Wr [] := by
      obtain ⟨o, ho⟩ := hWr.alive
      exact hWr.on ho (hnew8 _ _ ho (hno Wr (by first | exact nin_nil | exact all_nil | ((repeat (first | exact .head _ | refine .tail _ ?_)); done) | simp)))
    have hq0 : PlaceAt w v8 ⟨path, ka, x, dx, Rd, Wr, [], []⟩ := ⟨hpvi.up kv8, ⟨u1, u2, ⟨hnew8 _ _ ox (hno x (by first | exact nin_nil | exact all_nil | ((repeat (first | exact .head _ | refine .tail _ ?_)); done) | simp)), rfl, rfl, hnew8 _ _ od (hno dx (by first | exact nin_nil | exact all_nil | ((repeat (first | exact .head _ | refine .tail _ ?_)); done) | simp))⟩⟩, ⟨hRdV, lRd⟩, hWrV, lWr⟩
    have hgn : ∀ a ∈ allOf ps2, g.get? a = none := fun a ha => by
      rcases hall4 a ha with z | z
      · exact Z.offg a (List.mem_append_right _ z)
      · rw [z]; exact hgnd
    have hgq : ∀ a ∈ [x, dx, Rd, Wr], g.get? a = none := fun a ha => none_of (Fr.toSub F7) (hno a ha)
    (try clear F); (try clear N); (try clear F7); (try clear N7)
    k_steps
    rename Fr g L _ _ => F9
    rename News g L _ own8 => N9
    have hra : r0.addr ∈ allOf ps2 := List.mem_flatMap.mpr ⟨r0, hr0, List.mem_cons_self ..⟩
    refine setdef_rows (q0 := ⟨path, ka, x, dx, Rd, Wr, [], []⟩) (DPi.up kv8) (Z8.sub F9 N9 fun _ h => h) hr0 hq0 rfl rfl hP2 hna4 hnd8 (fun a ha hb => by
      obtain ⟨o, ho⟩ := DPi.alive a (List.mem_cons_of_mem _ hb)
      exact hdead a ha a o ho rfl) (by (first | exact ar87 hm hrl | lia)) (Mine.room hun) fun r q ps3 v10 h10 tk10 P10 DP10 hr hq hrn hqp hall10 hna10 hbd10 hsem10 => ?_
    refine Z8.backK F9 N9 P10 (by first | exact Mine.nin1 (hgn _ hra) | exact Mine.all1 (hgn _ hra) | simpa using hgn _ hra) (by first | exact Mine.nin1 ((DPi.up kv8).alive _ (List.mem_cons_of_mem _ hra)) | exact Mine.all1 ((DPi.up kv8).alive _ (List.mem_cons_of_mem _ hra)) | simpa using (DPi.up kv8).alive _ (List.mem_cons_of_mem _ hra)) ?_
    intro own10 mm_ Z10  F10  N10
    (try (refine Mine.wp_let ?_; intro sQ7_))
    have ntr := dictH_noTup ((DPi.up kv8).2.2 r0 hr0).1
    have D10 := (Di.up kv8).keeps P10.keeps (by intro z; have e := List.mem_singleton.mp z; exact hC2 (by rw [e]; exact hra)) ntr
    have DR10 := (DRi.up kv8).keeps P10.keeps (by intro z; have e := List.mem_singleton.mp z; exact hR2 (by rw [e]; exact hra)) ntr
    have hQ := (DP10.2.2 r hr).2.2 q hq
    refine Mine.byv fun P_ kP_ => ?_
    obtain ⟨_, ⟨u3, u4, Iq⟩, _⟩ := id hQ
    refine kP_ ?_
    clear kP_ P_
    (try clear F8); (try clear N8); (try clear F9); (try clear N9)
    have hC3 : C ∉ allOf ps3 := fun z => (hall10 C z).elim hC2 fun z => by
      obtain ⟨o, ho⟩ := Di.alive
      exact hdead C z C o ho rfl
    have hR3 : R ∉ allOf ps3 := fun z => (hall10 R z).elim hR2 fun z => by
      obtain ⟨o, ho⟩ := DRi.alive
      exact hdead R z R o ho rfl
    have hP3 : P ∉ allOf ps3 := fun z => (hall10 P z).elim hP2 fun z => by
      obtain ⟨o, ho⟩ := DPi.alive P (List.mem_cons_self ..)
      exact hdead P z P o ho rfl
    have hgn3 : ∀ a ∈ allOf ps3, g.get? a = none := fun a ha => (hall10 a ha).elim (hgn a) (hgq a)
    have hnone : ∀ a, g.get? a = none → a ∉ [C, R, P] ++ allOf ps → s.heap.get? a = none := fun a h1 h2 => by
      cases q : s.heap.get? a with
      | none => rfl
      | some o => have := Z.hk _ _ h2 q; rw [h1] at this; cases this
    have hallret : ∀ a ∈ allOf ps3, a ∈ allOf ps ∨ s.heap.get? a = none := fun a ha => by
      by_cases ha2 : a ∈ allOf ps
      · exact .inl ha2
      · refine .inr (hnone a (hgn3 a ha) fun z => ?_)
        simp only [List.cons_append, List.nil_append, List.mem_cons] at z
        rcases z with q_ | q_ | q_ | z
        · cases q_; exact hC3 ha
        · cases q_; exact hR3 ha
        · cases q_; exact hP3 ha
        · exact ha2 z
    have hWg : g.get? W = some _ := IG.at_
    have hdg : g.get? d = some _ := IG.dict
    have I10 := InstAt.keeps' (InstAt.keeps' Ii (kv8.keeps []) (by first | exact nin_nil | exact all_nil | ((repeat (first | exact .head _ | refine .tail _ ?_)); done) | simp) (by first | exact nin_nil | exact all_nil | ((repeat (first | exact .head _ | refine .tail _ ?_)); done) | simp)) P10.keeps (fun z => by have e := List.mem_singleton.mp z; rw [e, hgn _ hra] at hWg; cases hWg) (fun a e z => by cases e; have e := List.mem_singleton.mp z; rw [e, hgn _ hra] at hdg; cases hdg)
    have ec : cOf cm gI = c := by simp [cOf, hcm]
    have hlen' : rsi.length ≤ rs.length + 2 * m * m := by
      have := Nat.mul_le_mul_left (2 * m) (show ks.length ≤ m by (first | exact ar110 hrl hkl | lia))
      (first | exact ar421 hlen this | lia)
    have hmem' : ∀ d, d ∈ rsi ↔ d ∈ rs ∨ ∃ kk, Hit ps num gI path word c kk d := fun d => by
      have hw2 : ∀ kk o, Wf ps2 num kk o = Wf ps num kk o ∧ Rf ps2 num kk o = Rf ps num kk o := fun kk o => by
        unfold Wf Rf
        rw [hpo4]; exact ⟨rfl, rfl⟩
      rw [hmem d]
      refine or_congr Iff.rfl ⟨?_, ?_⟩
      · intro hp0_
        refine Mine.byv fun P_ kP_ => ?_
        obtain ⟨kk, _, h1, o, h2, h3⟩ := hp0_
        refine kP_ ?_
        clear kP_ P_
        rw [(hw2 kk o).1, (hw2 kk o).2] at h3
        exact ⟨kk, h1, o, h2, h3⟩
      · intro hp0_
        refine Mine.byv fun P_ kP_ => ?_
        obtain ⟨kk, h1, o, h2, h3⟩ := hp0_
        refine kP_ ?_
        clear kP_ P_
        rw [← (hw2 kk o).1, ← (hw2 kk o).2] at h3
        refine ⟨kk, Classical.byContradiction fun hk => ?_, h1, o, h2, h3⟩
        have hz : placeOf ps2 num kk = none := by
          unfold placeOf
          rw [← hr0n, find_num DP4.nums hr0]
          show r0.rows.find? _ = none
          rw [List.find?_eq_none]
          intro q hq e
          refine hk (hperm.mem_iff.mpr (List.mem_map.mpr ⟨q, hq, ?_⟩))
          simpa [entOf] using e
        have e1 : Wf ps2 num kk o = 0 ∧ Rf ps2 num kk o = 0 := by
          unfold Wf Rf
          rw [hz]; exact ⟨rfl, rfl⟩
        have nn := hc.nonneg o
        rcases h3 with ⟨h3, _⟩ | ⟨_, h3, _⟩
        · rw [e1.1] at h3; (first | exact ar45 nn h3 | lia)
        · rw [e1.2] at h3; (first | exact ar45 nn h3 | lia)
    k_steps
    · have hww := ‹(word == Str.ofString "write") = true›
      have hword : word = writeW := by rcases hw with e | e; exact absurd (e ▸ hww) (by decide); exact e
      rename Fr g L _ _ => F11
      rename News g L _ own10 => N11
      refine clock_call X0 T0 Z10.H (Z10.sub F11 N11 fun _ h => h) (Mine.room hdp) (Mine.room hun) I10 hWC hdC (hoff C (by first | exact nin_nil | exact all_nil | ((repeat (first | exact .head _ | refine .tail _ ?_)); done) | simp)) D10 (by (first | exact ar113 hn hrl hkl | lia)) fun rv v12 h12 tk12 P12 D12 hr12 => ?_
      refine Z10.backK F11 N11 P12 (by first | exact Mine.nin1 (Z.offg C (by first | exact nin_nil | exact all_nil | ((repeat (first | exact .head _ | refine .tail _ ?_)); done) | simp)) | exact Mine.all1 (Z.offg C (by first | exact nin_nil | exact all_nil | ((repeat (first | exact .head _ | refine .tail _ ?_)); done) | simp)) | simpa using Z.offg C (by first | exact nin_nil | exact all_nil | ((repeat (first | exact .head _ | refine .tail _ ?_)); done) | simp)) (by first | exact Mine.nin1 (D10.alive) | exact Mine.all1 (D10.alive) | simpa using D10.alive) ?_
      intro own12 mm_ Z12  F12  N12
      (try (refine Mine.wp_let ?_; intro sQ8_))
      rw [cOf_clk, ec] at D12 hr12
      rw [upd_map, upd_same hcm] at D12
      have ntC := D10.noTup
      have DP12 := DP10.keeps P12.keeps (by first | exact Mine.nin1 (Ne.symm hCP) | exact Mine.all1 (Ne.symm hCP) | simpa using Ne.symm hCP) (fun a ha z => hC3 (by rw [← List.mem_singleton.mp z]; exact ha)) ntC
      have DR12 := DR10.keeps P12.keeps (by first | exact Mine.nin1 (Ne.symm hCR) | exact Mine.all1 (Ne.symm hCR) | simpa using Ne.symm hCR) ntC
      (try clear F10); (try clear N10); (try clear F11); (try clear N11)
      iterate 4 walk1
      rename Fr g L _ _ => F13
      rename News g L _ own12 => N13
      refine count_call Xg Tg (Fr.toSub F13) (Mine.room hdp) (Mine.room hun) (hr12.up (Z12.sub F13 N13 fun _ h => h)) fun t13 h13 tk13 k13 => ?_
      have F14 := Fr.use F13 (k13.keeps []) (by first | exact nin_nil | exact all_nil | ((repeat (first | exact .head _ | refine .tail _ ?_)); done) | simp) (by first | exact nin_nil | exact all_nil | ((repeat (first | exact .head _ | refine .tail _ ?_)); done) | simp)
      have N14 := News.use N13 (k13.keeps []) (by first | exact nin_nil | exact all_nil | ((repeat (first | exact .head _ | refine .tail _ ?_)); done) | simp)
      (try clear F12); (try clear N12); (try clear F13); (try clear N13)
      iterate 2 walk1
      rename Fr g L _ _ => F15
      rename News g L _ own12 => N15
      have hbq := ((hbd10 hpl _ _ _ hbd4).2 r hr).2 q hq
      refine set_count (wr := true) (q := q) (r := r) DP12 (Z12.sub F15 N15 fun _ h => h) hr hq hP3 hna10 (by simp only [PlA.cs, if_true, if_false, Bool.false_eq_true]; (first | exact ar417 hm hbq | lia)) fun ps' v16 h16 P16 DP16 hall16 hbd16 hsem16 => ?_
      have htg := tgt_mem q true
      have hta := qmem hr hq htg
      refine Z12.backK F15 N15 P16 (by first | exact Mine.nin1 (hgn3 _ hta) | exact Mine.all1 (hgn3 _ hta) | simpa using hgn3 _ hta) (by first | exact Mine.nin1 (DP12.alive _ (List.mem_cons_of_mem _ hta)) | exact Mine.all1 (DP12.alive _ (List.mem_cons_of_mem _ hta)) | simpa using DP12.alive _ (List.mem_cons_of_mem _ hta)) ?_
      intro own16 mm_ Z16  F16  N16
      (try (refine Mine.wp_let ?_; intro sQ9_))
      have ntT := (((DP12.2.2 r hr).2.2 q hq).cs true).1.noTup
      have D16 := D12.keeps P16.keeps (fun z => hC3 (by rw [List.mem_singleton.mp z]; exact hta)) ntT
      have DR16 := DR12.keeps P16.keeps (fun z => hR3 (by rw [List.mem_singleton.mp z]; exact hta)) ntT
      (try clear F14); (try clear N14); (try clear F15); (try clear N15)
      k_steps
      (try k_steps)
      show Q .none _
      (try k_steps)
      refine ret ps' rsi v16 _ _ (Z16.post F16 N16) (D16.mono (by (first | exact ar118 hrl hkl | lia))) DR16 DP16 (by rw [hall16]; exact hallret) (by rw [hall16]; exact hna10) (hbd16 _ _ _ (hbd10 hpl _ _ _ hbd4)) hlen' oki hndi hmem' fun n' path' o => ?_
      have e1 := hsem16 n' path' o
      have e2 := hsem10 n' path' o
      have e3 : Wf ps2 n' path' o = Wf ps n' path' o ∧ Rf ps2 n' path' o = Rf ps n' path' o := by
        unfold Wf Rf
        rw [hpo4]; exact ⟨rfl, rfl⟩
      rw [e1.1, e1.2, e2.1, e2.2, e3.1, e3.2, hrn, hr0n, hqp, hword]
      constructor
      · congr 1
        simp [readW_ne]
      · congr 1
        simp [readW_ne]
    · have hww := ‹(word == Str.ofString "write") = false›
      have hword : word = readW := by rcases hw with e | e; exact e; exact absurd (e ▸ hww) (by decide)
      rename Fr g L _ _ => F11
      rename News g L _ own10 => N11
      refine clock_call X0 T0 Z10.H (Z10.sub F11 N11 fun _ h => h) (Mine.room hdp) (Mine.room hun) I10 hWC hdC (hoff C (by first | exact nin_nil | exact all_nil | ((repeat (first | exact .head _ | refine .tail _ ?_)); done) | simp)) D10 (by (first | exact ar113 hn hrl hkl | lia)) fun rv v12 h12 tk12 P12 D12 hr12 => ?_
      refine Z10.backK F11 N11 P12 (by first | exact Mine.nin1 (Z.offg C (by first | exact nin_nil | exact all_nil | ((repeat (first | exact .head _ | refine .tail _ ?_)); done) | simp)) | exact Mine.all1 (Z.offg C (by first | exact nin_nil | exact all_nil | ((repeat (first | exact .head _ | refine .tail _ ?_)); done) | simp)) | simpa using Z.offg C (by first | exact nin_nil | exact all_nil | ((repeat (first | exact .head _ | refine .tail _ ?_)); done) | simp)) (by first | exact Mine.nin1 (D10.alive) | exact Mine.all1 (D10.alive) | simpa using D10.alive) ?_
      intro own12 mm_ Z12  F12  N12
      (try (refine Mine.wp_let ?_; intro sQ10_))
      rw [cOf_clk, ec] at D12 hr12
      rw [upd_map, upd_same hcm] at D12
      have ntC := D10.noTup
      have DP12 := DP10.keeps P12.keeps (by first | exact Mine.nin1 (Ne.symm hCP) | exact Mine.all1 (Ne.symm hCP) | simpa using Ne.symm hCP) (fun a ha z => hC3 (by rw [← List.mem_singleton.mp z]; exact ha)) ntC
      have DR12 := DR10.keeps P12.keeps (by first | exact Mine.nin1 (Ne.symm hCR) | exact Mine.all1 (Ne.symm hCR) | simpa using Ne.symm hCR) ntC
      (try clear F10); (try clear N10); (try clear F11); (try clear N11)
      iterate 4 walk1
      rename Fr g L _ _ => F13
      rename News g L _ own12 => N13
      refine count_call Xg Tg (Fr.toSub F13) (Mine.room hdp) (Mine.room hun) (hr12.up (Z12.sub F13 N13 fun _ h => h)) fun t13 h13 tk13 k13 => ?_
      have F14 := Fr.use F13 (k13.keeps []) (by first | exact nin_nil | exact all_nil | ((repeat (first | exact .head _ | refine .tail _ ?_)); done) | simp) (by first | exact nin_nil | exact all_nil | ((repeat (first | exact .head _ | refine .tail _ ?_)); done) | simp)
      have N14 := News.use N13 (k13.keeps []) (by first | exact nin_nil | exact all_nil | ((repeat (first | exact .head _ | refine .tail _ ?_)); done) | simp)
      (try clear F12); (try clear N12); (try clear F13); (try clear N13)
      iterate 2 walk1
      rename Fr g L _ _ => F15
      rename News g L _ own12 => N15
      have hbq := ((hbd10 hpl _ _ _ hbd4).2 r hr).2 q hq
      refine set_count (wr := false) (q := q) (r := r) DP12 (Z12.sub F15 N15 fun _ h => h) hr hq hP3 hna10 (by simp only [PlA.cs, if_true, if_false, Bool.false_eq_true]; (first | exact ar416 hm hbq | lia)) fun ps' v16 h16 P16 DP16 hall16 hbd16 hsem16 => ?_
      have htg := tgt_mem q false
      have hta := qmem hr hq htg
      refine Z12.backK F15 N15 P16 (by first | exact Mine.nin1 (hgn3 _ hta) | exact Mine.all1 (hgn3 _ hta) | simpa using hgn3 _ hta) (by first | exact Mine.nin1 (DP12.alive _ (List.mem_cons_of_mem _ hta)) | exact Mine.all1 (DP12.alive _ (List.mem_cons_of_mem _ hta)) | simpa using DP12.alive _ (List.mem_cons_of_mem _ hta)) ?_
      intro own16 mm_ Z16  F16  N16
      (try (refine Mine.wp_let ?_; intro sQ11_))
      have ntT := (((DP12.2.2 r hr).2.2 q hq).cs false).1.noTup
      have D16 := D12.keeps P16.keeps (fun z => hC3 (by rw [List.mem_singleton.mp z]; exact hta)) ntT
      have DR16 := DR12.keeps P16.keeps (fun z => hR3 (by rw [List.mem_singleton.mp z]; exact hta)) ntT
      (try clear F14); (try clear N14); (try clear F15); (try clear N15)
      k_steps
      (try k_steps)
      show Q .none _
      (try k_steps)
      refine ret ps' rsi v16 _ _ (Z16.post F16 N16) (D16.mono (by (first | exact ar118 hrl hkl | lia))) DR16 DP16 (by rw [hall16]; exact hallret) (by rw [hall16]; exact hna10) (hbd16 _ _ _ (hbd10 hpl _ _ _ hbd4)) hlen' oki hndi hmem' fun n' path' o => ?_
      have e1 := hsem16 n' path' o
      have e2 := hsem10 n' path' o
      have e3 : Wf ps2 n' path' o = Wf ps n' path' o ∧ Rf ps2 n' path' o = Rf ps n' path' o := by
        unfold Wf Rf
        rw [hpo4]; exact ⟨rfl, rfl⟩
      rw [e1.1, e1.2, e2.1, e2.2, e3.1, e3.2, hrn, hr0n, hqp, hword]
      constructor
      · congr 1
        simp [readW_ne]
      · congr 1
        simp [readW_ne]
end
end
/-- the values that the mask keeps -/
noncomputable def sel : List Value → List Bool → List Value
  | v :: vs, b :: bs => if b then v :: sel vs bs else sel vs bs
  | _, _ => []
theorem sel_append : ∀ {vs ws : List Value} {bs cs : List Bool}, vs.length = bs.length → sel (vs ++ ws) (bs ++ cs) = sel vs bs ++ sel ws cs
  | [], ws, [], cs, _ => rfl
  | v :: vs, ws, b :: bs, cs, h => by
    have ih := sel_append (vs := vs) (ws := ws) (bs := bs) (cs := cs) (by first | exact Mine.nin1 (h) | exact Mine.all1 (h) | simpa using h)
    cases b <;> simp [sel, ih]
theorem sel_dat {h : Heap} (pz : Dat → Bool) : ∀ {vs : List Value} {ds : List Dat}, DatsH h vs ds → DatsH h (sel vs (ds.map pz)) (ds.filter pz)
  | [], ds, x => by
    have := x.length
    obtain rfl : ds = [] := List.length_eq_zero_iff.mp this.symm
    exact DatsH.nil h
  | v :: vs, ds, x => by
    refine Mine.byv fun P_ kP_ => ?_
    obtain ⟨d, ds', rfl, hd, hs⟩ := x.uncons
    refine kP_ ?_
    clear kP_ P_
    have ih := sel_dat pz hs
    cases e : pz d
    · simpa [sel, e, List.filter_cons] using ih
    · simpa [sel, e, List.filter_cons] using DatsH.cons hd ih
theorem sel_len : ∀ (vs : List Value) (bs : List Bool), (sel vs bs).length ≤ vs.length
  | [], _ => by simp [sel]
  | _ :: _, [] => by simp [sel]
  | v :: vs, b :: bs => by
    have := sel_len vs bs
    cases b <;> simp [sel] <;> lia
section
variable {prog : Program} {w : World} {A : Around} {h₀ : Heap} {L : Addr} {m : Str → Option Value} {env : Env} {ct elt : Expr} {x : Str} {scope : Scope} {cl : List (Str × Addr)} {s : Shared} {S : List (Addr × Obj) → Prop} {Fin : List Value → List (Addr × Obj) → Prop} {news : List (Addr × Obj)}
theorem comp_rest {vs : List Value} {bs : List Bool} (hb : bs.length = vs.length) (hS : S news)
    (test : ∀ (i : Nat) v b I oI C oC D m₂ ys h tk (E' : Value → Shared → Prop), vs[i]? = some v → bs[i]? = some b → LCg.NsObj oC m₂ → m₂ x = some v → Fr h₀ L h m → News h₀ L h ((I, oI) :: (C, oC) :: (D, LCg.lst ys) :: news) → LCg.Off3 I C D news → ((@Ne Nat I C) ∧ (@Ne Nat I D) ∧ (@Ne Nat C D)) →
      wpAny (model prog w) A (isTrue ct (compEnvC scope cl C env) (eval ct (compEnvC scope cl C env))) (fun ok s' => ok = b ∧ ∃ tk', s' = { s with heap := h, toks := tk' }) E' { s with heap := h, toks := tk })
    (item : ∀ v I oI C oC D m₂ ys h tk (E' : Value → Shared → Prop), LCg.NsObj oC m₂ → m₂ x = some v → Fr h₀ L h m → News h₀ L h ((I, oI) :: (C, oC) :: (D, LCg.lst ys) :: news) → LCg.Off3 I C D news → ((@Ne Nat I C) ∧ (@Ne Nat I D) ∧ (@Ne Nat C D)) →
      wpAny (model prog w) A (eval elt (compEnvC scope cl C env)) (fun y s' => y = v ∧ ∃ tk', s' = { s with heap := h, toks := tk' }) E' { s with heap := h, toks := tk })
    (fin : Fin (sel vs bs) news) : LCt.CompRestT prog w A h₀ L m env ct elt x scope cl s S (fun i v => vs.toArray[i]? = some v) Fin vs.toArray.size 0 [] news := by
  have key : ∀ (j i : Nat) (ys : List Value), i + j = vs.length → ys = sel (vs.take i) (bs.take i) → LCt.CompRestT prog w A h₀ L m env ct elt x scope cl s S (fun i v => vs.toArray[i]? = some v) Fin j i ys news := by
    intro j
    induction j with
    | zero =>
      intro i ys hi hy
      rw [List.take_of_length_le (by (first | exact ar264 hi | lia)), List.take_of_length_le (by (first | exact ar370 hb hi | lia))] at hy
      rw [hy]
      exact LCt.CompRestT.zero fin
    | succ j ih =>
      intro i ys hi hy
      refine LCt.CompRestT.succ ?_
      intro v I oI C oC D m₂ h tk E' hv hC hx F N off ne
      have hv' : vs[i]? = some v := by simpa using hv
      have hi' : i < bs.length := by (first | exact ar412 hb hi | lia)
      have hs : sel (vs.take (i + 1)) (bs.take (i + 1)) = ys ++ (if bs[i] then [v] else []) := by
        rw [List.take_add_one, List.take_add_one, hv', List.getElem?_eq_getElem hi', sel_append (by simp; (first | exact ar368 hb | lia)), hy]
        cases bs[i] <;> simp [sel]
      refine wpAny_mono (test i v bs[i] I oI C oC D m₂ ys h tk E' hv' (List.getElem?_eq_getElem hi') hC hx F N off ne) (fun b s₂ hq => ?_) fun _ _ e => e
      obtain ⟨eb, tk', rfl⟩ := hq
      cases b with
      | true =>
        simp only [if_true]
        refine wpAny_mono (item v I oI C oC D m₂ ys h tk' E' hC hx F N off ne) (fun y s₃ hr => ?_) fun _ _ e => e
        obtain ⟨rfl, tk2, rfl⟩ := hr
        refine ⟨h, tk2, news, rfl, F, N, off, hS, ?_⟩
        refine ih (i + 1) _ (by (first | exact ar98 hi | lia)) ?_
        rw [hs, ← eb]; rfl
      | false =>
        simp only [Bool.false_eq_true, if_false]
        refine ⟨h, tk', news, rfl, F, N, off, hS, ih (i + 1) _ (by (first | exact ar98 hi | lia)) ?_⟩
        rw [hs, ← eb]; simp
  have := key vs.length 0 [] (by (first | exact ar188 | lia)) (by first | ((repeat' (first | exact nin_nil | exact all_nil | (refine nin_cons ?_ ?_) | (refine all_cons ?_ ?_) | assumption | exact Ne.symm (by assumption))); done) | simp [sel])
  simpa using this
end
/-- a span, and a list of spans -/
noncomputable def spanD (p : Int × Int) : Dat := .tuple [.int p.1, .int p.2]
/-- a list of data at a place -/
noncomputable def ListAt (v : Heap) (l : Addr) (ds : List Dat) : Prop := ∃ vs n, v.get? l = some (PySem.W.listOf vs.toArray n) ∧ DatsH v vs ds
theorem ListAt.alive {v : Heap} {l : Addr} {ds : List Dat} (x : ListAt v l ds) : ∃ o, v.get? l = some o := let ⟨_, _, e, _⟩ := x; ⟨_, e⟩
theorem ListAt.noTup {v : Heap} {l : Addr} {ds : List Dat} (x : ListAt v l ds) : NoTup v [l] := fun a ha o e => by
  have : a = l := by simpa using ha
  subst this
  refine Mine.byv fun P_ kP_ => ?_
  obtain ⟨_, _, e', _⟩ := x
  refine kP_ ?_
  clear kP_ P_
  rw [e'] at e; cases e
  exact fun hh => absurd hh.1 (by first | ((repeat' (first | exact nin_nil | exact all_nil | (refine nin_cons ?_ ?_) | (refine all_cons ?_ ?_) | assumption | exact Ne.symm (by assumption))); done) | simp [PySem.W.listOf])
theorem ListAt.keeps {v v' : Heap} {l : Addr} {ds : List Dat} {fp : List Addr} (x : ListAt v l ds) (k : Keeps fp v v') (hd : l ∉ fp) (nt : NoTup v fp) : ListAt v' l ds := let ⟨vs, n, e, d⟩ := x; ⟨vs, n, k _ _ hd e, d.keeps k nt⟩
theorem ListAt.up {v v' : Heap} {l : Addr} {ds : List Dat} (x : ListAt v l ds) (k : Sub v v') : ListAt v' l ds := x.keeps (fp := []) (k.keeps []) (by first | exact nin_nil | exact all_nil | ((repeat (first | exact .head _ | refine .tail _ ?_)); done) | simp) (fun a ha => by cases ha)
theorem any_isSome {kvs : List (Int × Value)} (k : Int) : kvs.any (fun kv => decide (kv.1 = k)) = (valueAt kvs k).isSome := (valueAt_isSome_eq_any kvs k).symm
theorem stored_len {kvs : List (Int × Value)} {k : Int} {v : Value} : (stored kvs k v).length = if (valueAt kvs k).isSome then kvs.length else kvs.length + 1 := by
  unfold stored
  rw [any_isSome]
  split <;> simp
/-- what the goroutines know: goroutine i's list stands at (kl i) -/
noncomputable def KnownAt (w : World) (v : Heap) (K : Addr) (kl : List Addr) (kn : List (List (Int × Int))) : Prop :=
  (K == sysModules) = false ∧ kl.length = kn.length ∧ (∃ kvs, v.DictOf (intKind PG w) K kvs ∧ kvs.length = kl.length ∧ ∀ x : Int, valueAt kvs x = if 0 ≤ x then (kl[x.toNat]?).map Value.ref else none) ∧
    ∀ (i : Nat) (l : Addr) (sp : List (Int × Int)), kl[i]? = some l → kn[i]? = some sp → ListAt v l (sp.map spanD)
section
variable {w : World} {v v' : Heap} {K : Addr} {kl : List Addr} {kn : List (List (Int × Int))} {fp : List Addr}
theorem KnownAt.alive (x : KnownAt w v K kl kn) : ∃ o, v.get? K = some o := by
  refine Mine.byv fun P_ kP_ => ?_
  obtain ⟨_, _, ⟨_, ⟨o, _, _, ho, _⟩, _⟩, _⟩ := x
  refine kP_ ?_
  clear kP_ P_
  exact ⟨o, ho⟩
theorem KnownAt.noTup (x : KnownAt w v K kl kn) : NoTup v [K] := fun a ha o e => by
  have : a = K := by simpa using ha
  subst this
  refine Mine.byv fun P_ kP_ => ?_
  obtain ⟨_, _, ⟨_, ⟨o', _, _, ho, hc, _⟩, _⟩, _⟩ := x
  refine kP_ ?_
  clear kP_ P_
  rw [ho] at e; cases e
  exact fun hh => absurd (hc.1.symm.trans hh.1) (by first | exact nin_nil | exact all_nil | ((repeat (first | exact .head _ | refine .tail _ ?_)); done) | simp)
theorem KnownAt.len (x : KnownAt w v K kl kn) : kl.length = kn.length := x.2.1
theorem KnownAt.list (x : KnownAt w v K kl kn) {i : Nat} {l : Addr} {sp : List (Int × Int)} (h1 : kl[i]? = some l) (h2 : kn[i]? = some sp) : ListAt v l (sp.map spanD) := x.2.2.2 i l sp h1 h2
theorem KnownAt.mem (x : KnownAt w v K kl kn) {l : Addr} (h : l ∈ kl) : ∃ o, v.get? l = some o := by
  obtain ⟨i, hi, rfl⟩ := List.mem_iff_getElem.mp h
  have hi2 : i < kn.length := x.len ▸ hi
  exact (x.list (List.getElem?_eq_getElem hi) (List.getElem?_eq_getElem hi2)).alive
theorem dictOf_keeps {kvs : List (Int × Value)} (D : v.DictOf (intKind PG w) K kvs) (k : Keeps fp v v') (hd : K ∉ fp) : v'.DictOf (intKind PG w) K kvs := by
  obtain ⟨o, ho, hO⟩ := Heap.dictOf_iff.mp D
  exact Heap.dictOf_iff.mpr ⟨o, k _ _ hd ho, hO⟩
theorem KnownAt.keeps (x : KnownAt w v K kl kn) (k : Keeps fp v v') (hK : K ∉ fp) (hd : ∀ l ∈ kl, l ∉ fp) (nt : NoTup v fp) : KnownAt w v' K kl kn := by
  refine Mine.byv fun P_ kP_ => ?_
  obtain ⟨a, b, ⟨kvs, D, c⟩, e⟩ := x
  refine kP_ ?_
  clear kP_ P_
  exact ⟨a, b, ⟨kvs, dictOf_keeps D k hK, c⟩, fun i l sp h1 h2 => (e i l sp h1 h2).keeps k (hd l (List.mem_of_getElem? h1)) nt⟩
theorem KnownAt.up (x : KnownAt w v K kl kn) (k : Sub v v') : KnownAt w v' K kl kn := x.keeps (fp := []) (k.keeps []) (by first | exact nin_nil | exact all_nil | ((repeat (first | exact .head _ | refine .tail _ ?_)); done) | simp) (by first | exact nin_nil | exact all_nil | ((repeat (first | exact .head _ | refine .tail _ ?_)); done) | simp) (fun a ha => by cases ha)
theorem KnownAt.put {kvs : List (Int × Value)} (a : (K == sysModules) = false) (b : kl.length = kn.length) (Dk : v.DictOf (intKind PG w) K kvs) (c : kvs.length = kl.length) (e : ∀ x : Int, valueAt kvs x = if 0 ≤ x then (kl[x.toNat]?).map Value.ref else none)
    (f : ∀ (i : Nat) (l : Addr) (sp : List (Int × Int)), kl[i]? = some l → kn[i]? = some sp → ListAt v l (sp.map spanD)) (k : Keeps [K] v v') (hd : K ∉ kl) {i : Nat} (hi : i < kl.length) {D : Addr} {sp : List (Int × Int)} (hD : ListAt v D (sp.map spanD)) (hDK : D ≠ K)
    (st : v'.DictOf (intKind PG w) K (stored kvs (i : Int) (.ref D))) : KnownAt w v' K (kl.set i D) (kn.set i sp) := by
  have nt := KnownAt.noTup ⟨a, b, ⟨kvs, Dk, c, e⟩, f⟩
  have hv : valueAt kvs (i : Int) = (kl[i]?).map Value.ref := by rw [e]; simp
  refine ⟨a, by simp [b], ⟨_, st, ?_, fun y => ?_⟩, fun j l sp' h1 h2 => ?_⟩
  · rw [stored_len, hv]; simp [hi, c]
  · rw [valueAt_stored, e]
    by_cases q : y = i
    · subst q; simp [hi]
    · rw [if_neg q]
      by_cases q2 : 0 ≤ y
      · have : i ≠ y.toNat := by lia
        rw [if_pos q2, if_pos q2, List.getElem?_set_ne this]
      · rw [if_neg q2, if_neg q2]
  · by_cases q : i = j
    · subst q
      rw [List.getElem?_set_self hi] at h1
      rw [List.getElem?_set_self (b ▸ hi)] at h2
      cases h1; cases h2
      exact hD.keeps k (by first | exact Mine.nin1 (hDK) | exact Mine.all1 (hDK) | simpa using hDK) nt
    · rw [List.getElem?_set_ne q] at h1 h2
      exact (f j l sp' h1 h2).keeps k (fun q => hd (by rw [List.mem_singleton.mp q] at h1; exact List.mem_of_getElem? h1)) nt
theorem KnownAt.add {kvs : List (Int × Value)} (a : (K == sysModules) = false) (b : kl.length = kn.length) (Dk : v.DictOf (intKind PG w) K kvs) (c : kvs.length = kl.length) (e : ∀ x : Int, valueAt kvs x = if 0 ≤ x then (kl[x.toNat]?).map Value.ref else none)
    (f : ∀ (i : Nat) (l : Addr) (sp : List (Int × Int)), kl[i]? = some l → kn[i]? = some sp → ListAt v l (sp.map spanD)) (k : Keeps [K] v v') (hd : K ∉ kl) {D : Addr} {sp : List (Int × Int)} (hD : ListAt v D (sp.map spanD)) (hDK : D ≠ K)
    (st : v'.DictOf (intKind PG w) K (stored kvs (kl.length : Int) (.ref D))) : KnownAt w v' K (kl ++ [D]) (kn ++ [sp]) := by
  have nt := KnownAt.noTup ⟨a, b, ⟨kvs, Dk, c, e⟩, f⟩
  have hv : valueAt kvs (kl.length : Int) = none := by rw [e]; simp
  refine ⟨a, by simp [b], ⟨_, st, ?_, fun y => ?_⟩, fun j l sp' h1 h2 => ?_⟩
  · rw [stored_len, hv]; simp [c]
  · rw [valueAt_stored, e]
    by_cases q : y = kl.length
    · subst q; simp
    · rw [if_neg q]
      by_cases q2 : 0 ≤ y
      · rw [if_pos q2, if_pos q2]
        rcases Nat.lt_or_ge y.toNat kl.length with h | h
        · rw [List.getElem?_append_left h]
        · rw [List.getElem?_eq_none h, List.getElem?_eq_none (by simp; lia)]
      · rw [if_neg q2, if_neg q2]
  · rcases Nat.lt_or_ge j kl.length with h | h
    · rw [List.getElem?_append_left h] at h1
      rw [List.getElem?_append_left (b ▸ h)] at h2
      exact (f j l sp' h1 h2).keeps k (fun q => hd (by rw [List.mem_singleton.mp q] at h1; exact List.mem_of_getElem? h1)) nt
    · rw [List.getElem?_append_right h] at h1
      rw [List.getElem?_append_right (b ▸ h)] at h2
      have : j - kl.length = 0 := by
        rcases Nat.eq_zero_or_pos (j - kl.length) with q | q
        · exact q
        · rw [List.getElem?_eq_none (by simp; (first | exact ar287 q | lia))] at h1; cases h1
      rw [this] at h1
      rw [← b, this] at h2
      simp at h1 h2
      subst h1; subst h2
      exact hD.keeps k (by first | exact Mine.nin1 (hDK) | exact Mine.all1 (hDK) | simpa using hDK) nt
end
theorem isInt_ok {d : Dat} {n : Nat} (h : ∃ i, d = Dat.int i) : kqdOk n d = true := by
  obtain ⟨i, rfl⟩ := h
  cases n <;> rfl
section
variable {prog : Program} {w : World} {A : Around} {E : Value → Shared → Prop} {s : Shared}
theorem tuple_gt_dat (n : Nat) (rich : ∀ (a b : Int) (t t' : Tok) (A : Around) (E : Value → Shared → Prop) (Q : Value → Shared → Prop), Q (.bool (decide (b < a))) s → wpAny (model prog w) A (richCompare .Gt (.int a t) (.int b t')) Q E s)
    {ds es : List Dat} {A : Around} {E : Value → Shared → Prop} {v u : Value} {Q : Value → Shared → Prop} (hd : ∀ d ∈ ds, ∃ i, d = Dat.int i) (he : ∀ d ∈ es, ∃ i, d = Dat.int i) (hc : CmpAll ds es) (x : DatH s.heap v (.tuple ds)) (y : DatH s.heap u (.tuple es)) (hu : A.units + (n + 1) + 1 < cLine)
    (h : Q (.bool (llt (kys es) (kys ds))) s) : wpAny (model prog w) A (call (.builtin "tuple.__gt__") [v, u]) (fun v s' => v ≠ .notImplemented ∧ Q v s') E s := by
  refine Mine.byv fun P_ kP_ => ?_
  obtain ⟨a, xs, na, rfl, ha, hxs⟩ := x.untuple
  obtain ⟨b, ys, nb, rfl, hb, hys⟩ := y.untuple
  refine kP_ ?_
  clear kP_ P_
  refine wpAny_call_entry F.slot_tuple_gt ⟨_, ha, rfl⟩ F.entry_tuple_gt ?_ (F.args_tuple_gt_2 _ _)
  show wpAny _ _ (isInstance (.ref b) (.type "tuple") >>= _) _ _ s
  refine wpAny_bind (wpAny_isInstance ⟨_, hb, rfl⟩ isSubtype_tuple_tuple ?_)
  simp only [Bool.not_true, Bool.false_eq_true, if_false]
  refine wpAny_bind (wpAny_tupleItemsOf ha rfl ?_)
  refine wpAny_bind (wpAny_tupleItemsOf hb rfl ?_)
  refine wpAny_bind ?_
  refine wpAny_forIn_list _
    (fun rest r s' => TupI s (fun d => ∃ i, d = Dat.int i) (llt (kys es) (kys ds)) (decide (ys.length < xs.length)) (fun a b => llt (kys b) (kys a)) (fun a b => decide (b.length < a.length)) rest (r.1 = none) s')
    _ ?_ ?_ _ _ ⟨rfl, rfl, ds, es, xs, ys, rfl, hxs, hys, hd, he, hc, rfl, rfl⟩
  · intro hp0_ rest r s' hp4_
    refine Mine.byv fun P_ kP_ => ?_
    obtain ⟨p, q⟩ := hp0_
    obtain ⟨hr, rfl, ds', es', xs', ys', hz, hx', hy', hd', he', hc', hl, hlen⟩ := hp4_
    refine kP_ ?_
    clear kP_ P_
    refine Mine.byv fun P_ kP_ => ?_
    obtain ⟨xs'', ys'', rfl, rfl, rfl⟩ := zip_cons hz
    obtain ⟨d, ds'', rfl, dp, hx''⟩ := hx'.uncons
    obtain ⟨e, es'', rfl, dq, hy''⟩ := hy'.uncons
    refine kP_ ?_
    clear kP_ P_
    have hc1 := hc'.head
    have hc2 := hc'.tail
    rw [kys, kys, llt_one] at hl
    refine wpAny_bind (eqBool_dat (n := n) (isInt_ok (hd' d (.head _))) (isInt_ok (he' e (.head _))) dp dq (by show A.units + 1 + n < _; (first | exact ar95 hu | lia)) fun bb hbb => ?_)
    cases bb with
    | true =>
      obtain rfl : d = e := hbb.mp rfl
      simp only [Bool.not_true, Bool.false_eq_true, if_false]
      refine wpAny_pure ⟨rfl, rfl, ds'', es'', xs'', ys'', rfl, hx'', hy'', fun d h => hd' d (.tail _ h), fun d h => he' d (.tail _ h), hc2, ?_, ?_⟩
      · rw [← hl, llt_append]
      · rw [← hlen]; simp
    | false =>
      simp only [Bool.not_false, if_true]
      have hne : d ≠ e := fun q => by have := hbb.mpr q; cases this
      refine wpAny_bind (wpAny_rule ?_)
      refine Mine.byv fun P_ kP_ => ?_
      obtain ⟨a1, rfl⟩ := hd' d (.head _)
      obtain ⟨b1, rfl⟩ := he' e (.head _)
      obtain ⟨t1, rfl⟩ := dp.unint
      obtain ⟨t2, rfl⟩ := dq.unint
      refine kP_ ?_
      clear kP_ P_
      rw [ky_ne hc1.symm (Ne.symm hne), ky, ky] at hl
      refine wpAny_bind (rich a1 b1 _ _ _ _ _ ?_)
      refine wpAny_bind (wpAny_pure (wpAny_pure ?_))
      exact wpAny_pure ⟨_, rfl, by simp, (congrArg (fun z => Q (.bool z) s') (show decide (b1 < a1) = llt (kys es) (kys ds) by rw [← hl]; simp [llt])).mpr h⟩
  · intro r s' hp2_
    refine Mine.byv fun P_ kP_ => ?_
    obtain ⟨hr, rfl, ds', es', xs', ys', hz, hx', hy', hd', he', hc', hl, hlen⟩ := hp2_
    obtain ⟨r1, r2⟩ := r
    refine kP_ ?_
    clear kP_ P_
    (try dsimp only at hr ⊢)
    subst hr
    have hsz : llt (kys es') (kys ds') = decide (ys'.length < xs'.length) := zip_end hy' hx' (List.zip_eq_nil_iff.mp hz.symm).symm
    refine wpAny_pure ⟨_, rfl, ?_, ?_⟩
    · simp [Builtin.Tuple.tupleCompareSizes]
    · rw [hl, hlen] at hsz
      have : Builtin.Tuple.tupleCompareSizes .Gt xs.toArray.size ys.toArray.size = .bool (decide (ys.length < xs.length)) := by simp [Builtin.Tuple.tupleCompareSizes]
      rw [this, ← hsz]; exact h
theorem int_gt {A : Around} {E : Value → Shared → Prop} {a b : Int} {t t' : Tok} {Q : Value → Shared → Prop} (h : Q (.bool (decide (b < a))) s) : wpAny (model prog w) A (richCompare .Gt (.int a t) (.int b t')) Q E s :=
  richCompare_gives (op := .Gt) (typeIs_int s _ t) (typeIs_int s _ t') F.slot_int_gt F.entry_int_gt (F.args_int_gt_2 _ _) (gives_int_gt _ _ t t') (fun x => nomatch x) h
theorem span_gt {A : Around} {E : Value → Shared → Prop} {v u : Value} {g a b : Int} {Q : Value → Shared → Prop} (x : DatH s.heap v (spanD (g, a))) (y : DatH s.heap u (spanD (g, b))) (hu : A.units + 10 < cLine)
    (h : Q (.bool (decide (b < a))) s) : wpAny (model prog w) A (richCompare .Gt v u) Q E s := by
  refine Mine.byv fun P_ kP_ => ?_
  obtain ⟨a', xs, na, rfl, ha, hxs⟩ := id x.untuple
  obtain ⟨b', ys, nb, rfl, hb, hys⟩ := id y.untuple
  refine kP_ ?_
  clear kP_ P_
  have e : decide (b < a) = llt (kys [Dat.int g, .int b]) (kys [Dat.int g, .int a]) := by
    by_cases q : b = a
    · subst q; simp [kys, ky, llt]
    · simp [kys, ky, llt, q]
  refine wpAny_richCompare_same_room ⟨_, ha, rfl⟩ ⟨_, hb, rfl⟩ F.slot_tuple_gt (tuple_gt_dat 1 (fun a b t t' A E Q h => int_gt h) ?_ ?_ ?_ x y ?_ ?_) (by (first | exact ar272 hu | lia))
  · intro d hd; simp at hd; rcases hd with rfl | rfl <;> exact ⟨_, rfl⟩
  · intro d hd; simp at hd; rcases hd with rfl | rfl <;> exact ⟨_, rfl⟩
  · exact .cons (.int _ _) (.cons (.int _ _) (.nilL _))
  · (first | exact ar270 hu | lia)
  · exact (congrArg (fun z => Q (.bool z) s) e).mp h
end
theorem ne_at {v : Heap} {I b : Addr} {o : Obj} (h : v.get? I = none) (e : v.get? b = some o) : b ≠ I := fun q => by rw [q, h] at e; cases e
theorem not_at {v : Heap} {I b : Addr} {o : Obj} (h : v.get? I = none) (e : v.get? b = some o) : b ∉ [I] := fun q => ne_at h e (List.mem_singleton.mp q)
section
variable {prog : Program} {w : World} {A : Around} {s : Shared}
/-- max, where each item is greater than the one before -/
theorem max_going {R : Result → Shared → Prop} {v : Heap} {I l S : Addr} {items : Array Value} {g : Int} (hh : A.handled = none) (hI : v.get? I = none) (hS0 : v.get? S = none) (hIS : I ≠ S) (hlI : l ≠ I) (hlS : l ≠ S)
    (hd : ∀ (i : Nat) x, items[i]? = some x → DatH v x (spanD (g, (i : Int) + 1))) (hu : A.units + 20 < cLine) :
    ∀ (k j : Nat) (s : Shared) (vb : Value) (c : Nat), items.size - (j + 1) = k → j + 1 ≤ items.size → s.heap.IsListIter I l (j + 1) → s.heap.IsList l items → items[j]? = some vb → Sub v s.heap →
    s.heap.get? S = some { cls := .type "list", dict := none, data := .seq #[vb, vb] c, slots := #[] } →
    (∀ x h' tk, items[items.size - 1]? = some x → (∀ b o, b ≠ I → b ≠ S → s.heap.get? b = some o → h'.get? b = some o) → R (.ok (.ret x)) { s with heap := h', toks := tk }) →
    codeAny (model prog w) A (.builtin "max.loop" ⟨[.ref I, .none, .ref S], []⟩) R s := by
  have hname : (toString "max" ++ toString ".loop" : String) = "max.loop" := by decide
  have W := Walks.list (prog := prog) (w := w) (A := A.in1) hh I l hlI items
  intro k
  induction k with
  | zero =>
    intro j s vb c hk hj hit hl hP V hS hR
    have hin : j + 1 = items.size := by (first | exact ar285 hk hj | lia)
    refine codeAny_builtin F.entry_max_loop ?_
    rw [Around.under_plainId F.plain_max_loop _]
    show wpAny _ A.in1 (seqItems? (.ref S) >>= _) _ _ s
    refine wpAny_bind (wpAny_seqItems hS rfl ?_)
    show wpAny _ A.in1 (tryCatch (pyNext (.ref I)) _ >>= _) _ _ s
    refine wpAny_bind (wpAny_tryCatch (W.done s _ _ (hin ▸ ⟨hit, hl⟩) fun h' tk hk' => ?_))
    have hS' := hk' S _ (by first | exact Mine.nin1 (Ne.symm hIS) | exact Mine.all1 (Ne.symm hIS) | simpa using Ne.symm hIS) hS
    show wpAny _ A.in1 (updateSeq S (fun _ => #[]) >>= _) _ _ _
    refine wpAny_bind ?_
    refine wpAny_updateSeq hS' rfl (wpAny_bind (wpAny_letGo (wpAny_pure ?_)))
    exact hR vb _ tk (by rw [← hin]; exact hP) fun b o h1 h2 e => (Heap.get?_update_other _ _ (Ne.symm h2)).trans (hk' b o (by first | exact Mine.nin1 (h1) | exact Mine.all1 (h1) | simpa using h1) e)
  | succ k ih =>
    intro j s vb c hk hj hit hl hP V hS hR
    have hlt : j + 1 < items.size := by (first | exact ar357 hk | lia)
    refine codeAny_builtin F.entry_max_loop ?_
    rw [Around.under_plainId F.plain_max_loop _]
    show wpAny _ A.in1 (seqItems? (.ref S) >>= _) _ _ s
    refine wpAny_bind (wpAny_seqItems hS rfl ?_)
    show wpAny _ A.in1 (tryCatch (pyNext (.ref I)) _ >>= _) _ _ s
    refine wpAny_bind (wpAny_tryCatch (W.item (j + 1) s _ _ hlt ⟨hit, hl⟩ fun x h' tk hx hst' hk' => ?_))
    have hS' := hk' S _ (by first | exact Mine.nin1 (Ne.symm hIS) | exact Mine.all1 (Ne.symm hIS) | simpa using Ne.symm hIS) hS
    have V' : Sub v h' := fun b o e => hk' b o (not_at hI e) (V b o e)
    show wpAny _ A.in1 (tryCatch (holding [x, x] (richCompare .Gt x vb >>= _)) _ >>= _) _ _ _
    refine wpAny_bind (wpAny_tryCatch (wpAny_holding (wpAny_bind (span_gt ((hd _ _ hx).up V') ((hd _ _ hP).up V') (by show A.units + 1 + 10 < _; (first | exact ar273 hu | lia)) ?_))))
    have hb : decide (((j : Nat) : Int) + 1 < ((j + 1 : Nat) : Int) + 1) = true := decide_eq_true (by (first | exact ar186 | lia))
    rw [hb]
    refine wpAny_bind (wpAny_holding (wpAny_truthy_bool ?_))
    refine wpAny_bind (wpAny_letGo (wpAny_pure ?_))
    simp only [if_true]
    refine wpAny_bind ?_
    refine wpAny_updateSeq hS' rfl (wpAny_bind (wpAny_letGo ?_))
    rw [hname]
    refine wpAny_pure ⟨plainId_quiet F.plain_max_loop _, ih (j + 1) _ x _ (by (first | exact ar356 hk | lia)) hlt (hst'.1.at fun o e => (Heap.get?_update_other _ _ (Ne.symm hIS)).trans e) (hst'.2.at fun o e => (Heap.get?_update_other _ _ (Ne.symm hlS)).trans e) hx (fun b o e => (Heap.get?_update_other _ _ (Ne.symm (ne_at hS0 e))).trans (V' b o e)) (Heap.get?_update_self _ hS' rfl)
      fun y h'' tk'' hP' hk'' => ?_⟩
    exact hR y h'' tk'' hP' fun b o h1 h2 e => hk'' b o h1 h2 ((Heap.get?_update_other _ _ (Ne.symm h2)).trans (hk' b o (by first | exact Mine.nin1 (h1) | exact Mine.all1 (h1) | simpa using h1) e))
theorem call_max_span {E : Value → Shared → Prop} {l : Addr} {items : Array Value} {g : Int} {Q : Value → Shared → Prop} (hh : A.handled = none) (hl : s.heap.IsList l items) (h0 : 0 < items.size)
    (hd : ∀ (i : Nat) x, items[i]? = some x → DatH s.heap x (spanD (g, (i : Int) + 1))) (hu : A.units + 30 < cLine)
    (h : ∀ x h' tk, items[items.size - 1]? = some x → Sub s.heap h' → Q x { s with heap := h', toks := tk }) : wpAny (model prog w) A (call (.builtin "max") [.ref l]) Q E s := by
  have hname : (toString "max" ++ toString ".loop" : String) = "max.loop" := by decide
  have hll : l < s.heap.objs.size := by obtain ⟨o, e, _⟩ := hl; exact Heap.lt_size e
  refine call_function_tree F.kind_max F.plain_max F.entry_max (F.args_max1 _) ?_
  show wpAny _ A.in1 (Builtin.Builtins.bindParams "max" ["key", "default"] 0 ⟨[], []⟩ >>= _) _ _ s
  refine wpAny_bind (wpAny_of_eq (show Builtin.Builtins.bindParams "max" ["key", "default"] 0 ⟨[], []⟩ = pure [none, none] from rfl) ?_)
  refine wpAny_bind (wpAny_pure ?_)
  refine wpAny_bind (wpAny_pyIter_list hl ?_)
  refine wpAny_bind (wpAny_newObj_type ?_)
  rw [hname]
  have hsz : (s.heap.push { cls := .type "list_iterator", data := .fields #[.ref l, .int 0 0] }).objs.size = s.heap.objs.size + 1 := Heap.size_push ..
  have hIS : s.heap.objs.size ≠ (s.heap.push { cls := .type "list_iterator", data := .fields #[.ref l, .int 0 0] }).objs.size := by rw [hsz]; exact Nat.ne_of_lt (Nat.lt_succ_self _)
  have hlI : l ≠ s.heap.objs.size := Nat.ne_of_lt hll
  have hlS : l ≠ (s.heap.push { cls := .type "list_iterator", data := .fields #[.ref l, .int 0 0] }).objs.size := by rw [hsz]; exact Nat.ne_of_lt (Nat.lt_succ_of_lt hll)
  have hI : s.heap.get? s.heap.objs.size = none := by
    cases q : s.heap.get? s.heap.objs.size with
    | none => rfl
    | some o => exact absurd (Heap.lt_size q) (Nat.lt_irrefl _)
  have hS0 : s.heap.get? (s.heap.push { cls := .type "list_iterator", data := .fields #[.ref l, .int 0 0] }).objs.size = none := by
    cases q : s.heap.get? (s.heap.push { cls := .type "list_iterator", data := .fields #[.ref l, .int 0 0] }).objs.size with
    | none => rfl
    | some o =>
      have := Heap.lt_size q
      rw [hsz] at this
      exact absurd (Nat.lt_of_succ_lt this) (Nat.lt_irrefl _)
  have W := Walks.list (prog := prog) (w := w) (A := A.in1) hh s.heap.objs.size l hlI items
  refine wpAny_pure ⟨plainId_quiet F.plain_max_loop _, ?_⟩
  have hit : ((s.heap.push { cls := .type "list_iterator", data := .fields #[.ref l, .int 0 0] }).push { cls := .type "list", data := .seq #[] }).IsListIter s.heap.objs.size l 0 := ⟨_, Heap.get?_push_of_some _ (Heap.get?_push_size _ rfl), rfl, rfl⟩
  have V : Sub s.heap ((s.heap.push { cls := .type "list_iterator", data := .fields #[.ref l, .int 0 0] }).push { cls := .type "list", data := .seq #[] }) := fun b o e => Heap.get?_push_of_some _ (Heap.get?_push_of_some _ e)
  have hS : ((s.heap.push { cls := .type "list_iterator", data := .fields #[.ref l, .int 0 0] }).push { cls := .type "list", data := .seq #[] }).get? (s.heap.push { cls := .type "list_iterator", data := .fields #[.ref l, .int 0 0] }).objs.size = some _ := Heap.get?_push_size _ rfl
  have hl2 : ((s.heap.push { cls := .type "list_iterator", data := .fields #[.ref l, .int 0 0] }).push { cls := .type "list", data := .seq #[] }).IsList l items := hl.at fun o e => V _ _ e
  generalize (s.heap.push { cls := .type "list_iterator", data := .fields #[.ref l, .int 0 0] }).objs.size = S at *
  generalize ((s.heap.push { cls := .type "list_iterator", data := .fields #[.ref l, .int 0 0] }).push { cls := .type "list", data := .seq #[] }) = hp at *
  refine codeAny_builtin F.entry_max_loop ?_
  rw [Around.under_plainId F.plain_max_loop _]
  show wpAny _ A.in1 (seqItems? (.ref S) >>= _) _ _ _
  refine wpAny_bind (wpAny_seqItems hS rfl ?_)
  show wpAny _ A.in1 (tryCatch (pyNext (.ref s.heap.objs.size)) _ >>= _) _ _ _
  refine wpAny_bind (wpAny_tryCatch (W.item 0 _ _ _ h0 ⟨hit, hl2⟩ fun x h' tk hx hst' hk' => ?_))
  have hS' := hk' S _ (by first | exact Mine.nin1 (Ne.symm hIS) | exact Mine.all1 (Ne.symm hIS) | simpa using Ne.symm hIS) hS
  show wpAny _ A.in1 (updateSeq S (fun _ => #[x, x]) >>= _) _ _ _
  refine wpAny_bind ?_
  refine wpAny_updateSeq hS' rfl ?_
  rw [hname]
  refine wpAny_pure ⟨plainId_quiet F.plain_max_loop _, max_going (v := s.heap) hh hI hS0 hIS hlI hlS hd (by (first | exact ar275 hu | lia)) _ 0 _ x _ rfl h0 (hst'.1.at fun o e => (Heap.get?_update_other _ _ (Ne.symm hIS)).trans e) (hst'.2.at fun o e => (Heap.get?_update_other _ _ (Ne.symm hlS)).trans e) hx ?_ (Heap.get?_update_self _ hS' rfl) fun y h'' tk'' hP' hk'' => ?_⟩
  · exact fun b o e => (Heap.get?_update_other _ _ (Ne.symm (ne_at hS0 e))).trans (hk' b o (not_at hI e) (V b o e))
  · exact h y h'' tk'' hP' fun b o e => hk'' b o (ne_at hI e) (ne_at hS0 e) ((Heap.get?_update_other _ _ (Ne.symm (ne_at hS0 e))).trans (hk' b o (not_at hI e) (V b o e)))
end
section
variable {prog : Program} {w : World} {A : Around} {h₀ s0 v0 g v : Heap} {fp : List Addr} {L : Addr} {own : List (Addr × Obj)} {m : Str → Option Value} {env : Env} {ct elt : Expr} {x : Str} {scope : Scope} {cl : List (Str × Addr)} {s : Shared}
theorem filter_dat (pz : Dat → Bool) {h : Heap} {vs : List Value} {ds : List Dat} (D : DatsH h vs ds) : DatsH h (sel vs (ds.map pz)) (ds.filter pz) := sel_dat pz D
theorem comp_dat {Q : Value → Shared → Prop} {news : List (Addr × Obj)} (hh : A.handled = none) (Z : Ctx h₀ s0 v0 fp g L own v) (F : Fr g L s.heap m) (N : News g L s.heap news) (hs : ∀ p ∈ own, p ∈ news) {l : Addr} {vs : List Value} {ds : List Dat} {n : Nat} (hl : v.get? l = some (PySem.W.listOf vs.toArray n)) (hd : DatsH v vs ds) (hsz : vs.length ≤ 100000) (pz : Dat → Bool)
    (test : ∀ d ∈ ds, ∀ a I oI C oC D m₂ ys h tk (E' : Value → Shared → Prop), DatH v a d → LCg.NsObj oC m₂ → m₂ x = some a → Fr g L h m → News g L h ((I, oI) :: (C, oC) :: (D, LCg.lst ys) :: news) → LCg.Off3 I C D news → ((@Ne Nat I C) ∧ (@Ne Nat I D) ∧ (@Ne Nat C D)) →
      wpAny (model prog w) A (isTrue ct (compEnvC scope cl C env) (eval ct (compEnvC scope cl C env))) (fun ok s' => ok = pz d ∧ ∃ tk', s' = { s with heap := h, toks := tk' }) E' { s with heap := h, toks := tk })
    (item : ∀ a I oI C oC D m₂ ys h tk (E' : Value → Shared → Prop), LCg.NsObj oC m₂ → m₂ x = some a → Fr g L h m → News g L h ((I, oI) :: (C, oC) :: (D, LCg.lst ys) :: news) → LCg.Off3 I C D news → ((@Ne Nat I C) ∧ (@Ne Nat I D) ∧ (@Ne Nat C D)) →
      wpAny (model prog w) A (eval elt (compEnvC scope cl C env)) (fun y s' => y = a ∧ ∃ tk', s' = { s with heap := h, toks := tk' }) E' { s with heap := h, toks := tk })
    (fin : ∀ D h tk ys, Fr g L h m → News g L h ((D, LCg.lst ys) :: news) → DatsH v ys (ds.filter pz) → ys.length ≤ vs.length → Q (.ref D) { s with heap := h, toks := tk }) :
    LCt.CompSrcT prog w A g L m env ct elt x scope cl (fun s₂ => LCg.FinE g L m s₂ Q) (.ref l) s := by
  have src : LCg.SrcAt g l vs.toArray news := by
    rcases (Z.look _ _ hl).2 with e | e
    · exact .inl ⟨_, e, rfl, n, rfl⟩
    · exact .inr ⟨_, hs _ e, rfl, n, rfl⟩
  refine .inl ⟨l, vs.toArray, news, rfl, hh, F, N, src, by rw [List.size_toArray, sizeLine_eq]; (first | exact ar26 hsz | lia), ?_⟩
  intro s₂ hp1_
  obtain ⟨g2, rfl⟩ := hp1_
  refine comp_rest (bs := ds.map pz) (by rw [List.length_map, hd.length]) src ?_ ?_ ?_
  · intro i a b I oI C oC D m₂ ys h tk E' hv hb hC hx F' N' off ne
    obtain ⟨d, hdm, hda, rfl⟩ : ∃ d, d ∈ ds ∧ DatH v a d ∧ b = pz d := by
      rw [List.getElem?_map] at hb
      refine Mine.byv fun P_ kP_ => ?_
      obtain ⟨d, e1, e2⟩ := Option.map_eq_some_iff.mp hb
      obtain ⟨hi, e3⟩ := List.getElem?_eq_some_iff.mp e1
      obtain ⟨a', e4, e5⟩ := hd.get hi
      refine kP_ ?_
      clear kP_ P_
      have hv' : vs[i]? = some a := by simpa using hv
      rw [hv'] at e4; cases e4
      exact ⟨d, List.mem_of_getElem? e1, e3 ▸ e5, e2.symm⟩
    exact test d hdm a I oI C oC D m₂ ys h tk E' hda hC hx F' N' off ne
  · intro a I oI C oC D m₂ ys h tk E' hC hx F' N' off ne
    exact item a I oI C oC D m₂ ys h tk E' hC hx F' N' off ne
  · intro D h tk F' N' _
    exact fin D h tk _ F' N' (sel_dat pz hd) (sel_len _ _)
end
/-- what stands beside the ledger stays through a call -/
theorem beside {g h h' : Heap} {L : Addr} {cells own' : List (Addr × Obj)} {fp1 : List Addr} (N : News g L h cells) (k : Keeps fp1 h h') (off : ∀ p ∈ cells, p.1 ∉ fp1) (N' : News g L h' own') : News g L h' (cells ++ own') :=
  News.plus (News.use N k off) N'
theorem kinds_of {scope : Scope} {binds : List (Str × Value)} (e : (binds.all fun y => scope.names.lookup y.1 == some .local || scope.names.lookup y.1 == some .cell) = true) :
    ∀ n, ∀ x ∈ binds, scope.names.lookup x.1 = some .local ∨ (scope.names.lookup x.1 = some .cell ∧ ((cellsFrom n scope.names []).lookup x.1).isSome = true) := PySem.W.kindsX e
section
variable {prog : Program} {w : World} {s : Shared} {K : Frag} {h₀ v : Heap} {mg mb : Str → Option Value} {p : Program} {loose : List Str} {dp un : Nat} {fr : Option (List Env)} {gd : Option (List Code)}
/-- a def with cells is opened over a view v of the heap: only fp may be touched -/
theorem intoC0 {name qual : Str} {params : Arguments} {body : List Stmt} {scope : Scope} {dV kV doc pm cdv ct oc : Value} {an od : Option Addr} {osl : Array (Option Value)} {f : Addr} {args : Args} {R : Result → Shared → Prop}
    (fp : List Addr) (binds : List (Str × Value))
    (X : K.In h₀) (T : TopRead p loose mg mb h₀) (H : Sub h₀ v) (V : Sub v s.heap) (hoff : ∀ a ∈ fp, h₀.get? a = none) (hin : ∀ a ∈ fp, ∃ o, v.get? a = some o)
    (ho : K.lookup f = some ⟨oc, od, .func (fnOf name qual params body scope dV kV doc pm an cdv ct), osl⟩) (hcd : codeIn K cdv qual = true) (hroom : dp < recursionLimit)
    (hbind : BindsTo s (fnOf name qual params body scope dV kV doc pm an cdv ct) args binds) (hkind : (binds.all fun y => scope.names.lookup y.1 == some .local || scope.names.lookup y.1 == some .cell) = true)
    (hnd : ((cellsFrom 0 scope.names []).map (·.1)).Nodup) (hco : scope.isCoroutine = false) (hgen : scope.isGenerator = false) (hk : scope.kind = .function)
    (h : ∀ g L h₁ tk fr' cells own, Ctx h₀ s.heap v fp g L own v → Fr g L h₁ (bindL (envOfC qual scope L f cdv).kindOf binds fun _ => none) → News g L h₁ (cells ++ own) →
      CellsAre (bindC (envOfC qual scope L f cdv).kindOf binds fun _ => none) (cellsFrom (L + 1) scope.names []) cells → (∀ p ∈ cells, s.heap.get? p.1 = none) → K.In g → TopRead p loose mg mb g → @LE.le Nat _ s.heap.objs.size L →
      wpAny (model prog w) (Ar (dp + 1) fr' gd (un + 3)) (execs body (envOfC qual scope L f cdv)) (fun fl s' => R (.ok (.ret (match fl with | .ret v => v | _ => .none))) s') (fun _ _ => False) { s with heap := h₁, toks := tk }) :
    codeAny (model prog w) (Ar dp fr gd un) (.call (.ref f) args) R s := by
  have hown : ∀ q ∈ fp.filterMap fun a => (v.get? a).map fun o => (a, o), s.heap.get? q.1 = some q.2 ∧ h₀.get? q.1 = none := fun q hq => by
    refine Mine.byv fun P_ kP_ => ?_
    obtain ⟨a, ha, e⟩ := List.mem_filterMap.mp hq
    obtain ⟨o, e1, rfl⟩ := Option.map_eq_some_iff.mp e
    refine kP_ ?_
    clear kP_ P_
    exact ⟨V _ _ e1, hoff a ha⟩
  have hfst : ∀ a, a ∈ (fp.filterMap fun a => (v.get? a).map fun o => (a, o)).map (·.1) ↔ a ∈ fp := fun a => by
    constructor
    · intro h
      refine Mine.byv fun P_ kP_ => ?_
      obtain ⟨q, hq, rfl⟩ := List.mem_map.mp h
      obtain ⟨a, ha, e⟩ := List.mem_filterMap.mp hq
      obtain ⟨o, e1, rfl⟩ := Option.map_eq_some_iff.mp e
      refine kP_ ?_
      clear kP_ P_
      exact ha
    · intro ha
      obtain ⟨o, e⟩ := hin a ha
      exact List.mem_map.mpr ⟨(a, o), List.mem_filterMap.mpr ⟨a, ha, by rw [e]; rfl⟩, rfl⟩
  generalize (fp.filterMap fun a => (v.get? a).map fun o => (a, o)) = own at hown hfst
  have hownv : ∀ q ∈ own, v.get? q.1 = some q.2 := fun q hq => by
    obtain ⟨o, e⟩ := hin _ ((hfst q.1).mp (List.mem_map_of_mem hq))
    have := V _ _ e
    rw [(hown q hq).1] at this; cases this
    exact e
  have HV := H.trans V
  have X' := X.keeps fun b o e => HV b o e
  refine codeAny_call_function hroom (X' _ _ ho) rfl hco hgen rfl (codeRec_of X' hcd) (hbind _ _ _ _ ?_)
  refine wpAny_newFunctionEnv_cells hk (kinds_of hkind _) fun env' he s' x => ?_
  subst he
  refine ⟨(T.nolimit.keeps fun b o e => HV b o e).keeps x.toInCall.keep, codeAny_func ?_⟩
  refine Mine.byv fun P_ kP_ => ?_
  obtain ⟨h₁, tk, rfl, _⟩ := x.done
  refine kP_ ?_
  clear kP_ P_
  have hk₁ := x.toInCall.keep
  obtain ⟨cells, NC, Y⟩ := Cl.news (h₀ := s.heap) (Nat.le_refl _) fun n c hm => ⟨x.cell n c (lookup_of_mem_nodup (cellsFrom_names scope.names 0 (s.heap.objs.size + 1) [] [] rfl ▸ hnd) hm), x.above n c hm⟩
  have nm : ∀ b o, h₀.get? b = some o → b ∉ own.map (·.1) := fun b o e q => by
    obtain ⟨x, hx, rfl⟩ := List.mem_map.mp q
    rw [(hown x hx).2] at e; cases e
  have hg : Sub h₀ (hideAll s.heap (own.map (·.1))) := fun b o e => hideAll_get _ (HV b o e) (nm b o e)
  have Hk' : Keeps fp s.heap (hideAll s.heap (own.map (·.1))) := fun b o n e => hideAll_get _ e fun q => n ((hfst b).mp q)
  have F : Fr (hideAll s.heap (own.map (·.1))) s.heap.objs.size h₁ _ := ⟨x.toInCall.ns, fun b o e => hk₁ b o (of_hideAll _ e), Nat.le_of_eq (hideAll_size _ _)⟩
  have NO : News (hideAll s.heap (own.map (·.1))) s.heap.objs.size h₁ own := fun q hq => ⟨hk₁ _ _ (hown q hq).1, Nat.ne_of_lt (Heap.lt_size (hown q hq).1), hideAll_none _ (List.mem_map_of_mem hq)⟩
  have NC' : News (hideAll s.heap (own.map (·.1))) s.heap.objs.size h₁ cells := fun q hq => ⟨(NC q hq).1, (NC q hq).2.1, by
    cases e : (hideAll s.heap (own.map (·.1))).get? q.1 with
    | none => rfl
    | some o => have := of_hideAll _ e; rw [(NC q hq).2.2] at this; cases this⟩
  refine wpAny_mono (h _ _ h₁ tk _ cells own ⟨Hk', fun b o e => of_hideAll _ e, fun a ha => ?_, hin, V, fun b o _ e => e, fun b o e => .inl ⟨o, e⟩, H, hg, fun b o e => ?_, hownv⟩ F (News.plus NC' NO) Y (fun p hp => (NC p hp).2.2) (X.keeps fun b o e => hg b o e) (T.keeps fun b o e => hg b o e) (Nat.le_refl _)) (fun _ _ x => x) fun _ _ x => x.elim
  · obtain ⟨q, hq, rfl⟩ := List.mem_map.mp ((hfst a).mpr ha)
    exact (NO q hq).2.2
  · by_cases q : b ∈ fp
    · obtain ⟨⟨b', o'⟩, hq, rfl⟩ := List.mem_map.mp ((hfst b).mpr q)
      have := hownv _ hq
      rw [e] at this; cases this
      exact ⟨(NO _ hq).2.1, .inr hq⟩
    · have e' := Hk' b o q (V b o e)
      exact ⟨Nat.ne_of_lt (Heap.lt_size (V b o e)), .inl e'⟩
theorem intoC {name qual : Str} {params : Arguments} {body : List Stmt} {scope : Scope} {dV kV doc pm cdv ct oc : Value} {an od : Option Addr} {osl : Array (Option Value)} {f : Addr} {args : Args} {R : Result → Shared → Prop}
    (fp : List Addr) (binds : List (Str × Value))
    (X : K.In h₀) (T : TopRead p loose mg mb h₀) (H : Sub h₀ v) (V : Sub v s.heap) (hoff : ∀ a ∈ fp, h₀.get? a = none) (hin : ∀ a ∈ fp, ∃ o, v.get? a = some o)
    (ho : K.lookup f = some ⟨oc, od, .func (fnOf name qual params body scope dV kV doc pm an cdv ct), osl⟩) (hcd : codeIn K cdv qual = true) (hroom : dp < recursionLimit)
    (hbind : BindsTo s (fnOf name qual params body scope dV kV doc pm an cdv ct) args binds) (hkind : (binds.all fun y => scope.names.lookup y.1 == some .local || scope.names.lookup y.1 == some .cell) = true)
    (hnd : ((cellsFrom 0 scope.names []).map (·.1)).Nodup) (hco : scope.isCoroutine = false) (hgen : scope.isGenerator = false) (hk : scope.kind = .function)
    (h : ∀ g L h₁ tk fr' cells own, let A' : Around := Ar (dp + 1) fr' gd (un + 3); let e_ : Env := envOfC qual scope L f cdv; let s1 : Shared := { s with heap := h₁, toks := tk }; let m0 : Str → Option Value := bindL (envOfC qual scope L f cdv).kindOf binds fun _ => none; Ctx h₀ s.heap v fp g L own v → Fr g L h₁ m0 → News g L h₁ (cells ++ own) →
      CellsAre (bindC (envOfC qual scope L f cdv).kindOf binds fun _ => none) (cellsFrom (L + 1) scope.names []) cells → (∀ p ∈ cells, s.heap.get? p.1 = none) → K.In g → TopRead p loose mg mb g → @LE.le Nat _ s.heap.objs.size L →
      wpAny (model prog w) A' (execs body e_) (fun fl s' => R (.ok (.ret (match fl with | .ret v => v | _ => .none))) s') (fun _ _ => False) s1) :
    codeAny (model prog w) (Ar dp fr gd un) (.call (.ref f) args) R s :=
  intoC0 fp binds X T H V hoff hin ho hcd hroom hbind hkind hnd hco hgen hk h
end
theorem take_min (a b : List Int) : decide (a.take (min a.length b.length) = b.take (min a.length b.length)) = meetB a b := by
  unfold meetB
  rcases Nat.le_total a.length b.length with h | h
  · rw [Nat.min_eq_left h, List.take_length]
    by_cases q : List.take a.length b = a
    · rw [q]; simp
    · have q1 : ¬ a = List.take a.length b := fun e => q e.symm
      have q2 : ¬ List.take b.length a = b := fun e => by
        have e1 : a = b := by rw [List.take_of_length_le h] at e; exact e
        exact q (by rw [e1, List.take_length])
      simp [q, q1, q2]
  · rw [Nat.min_eq_right h, List.take_length]
    by_cases q : List.take b.length a = b
    · rw [q]; simp
    · have q2 : ¬ List.take a.length b = a := fun e => by
        have e1 : b = a := by rw [List.take_of_length_le h] at e; exact e
        exact q (by rw [e1, List.take_length])
      simp [q, q2]
theorem tup_tail {prog : Program} {w : World} {A : Around} {E : Value → Shared → Prop} {s : Shared} {value slice : Expr} {l : Addr} {vs : List Value} {n : Nat} {k : Nat} {t : Tok} {x : Value} {Q : Value → Shared → Prop} (hl : s.heap.get? l = some (tupObj vs n)) (hx : vs[k]? = some x) (hsz : vs.length ≤ 100000)
    (hq : Q x s) (hs : subscripted slice false (.ref l) (.int (k : Int) t) = operate [.ref l, .int (k : Int) t] (PySem.getItem (.ref l) (.int (k : Int) t)) := by with_unfolding_all rfl)
    (hg : ∀ r, letTemporaryGo value (.ref l) r = pure () := by intro _; with_unfolding_all rfl) : wpAny (model prog w) A (subscriptTail value slice (.ref l) (.int (k : Int) t)) Q E s := by
  have hk : k < vs.length := (List.getElem?_eq_some_iff.mp hx).1
  refine subscriptTail_ops (T := "tuple") ⟨_, hl, rfl⟩ slot_tuple_getitem.lookup (PyProof.Rows.getItem_tuple (items := vs.toArray) (j := k) ⟨_, hl, rfl, _, rfl⟩ (by lia) (by lia) ?_ (by first | exact Mine.nin1 (hx) | exact Mine.all1 (hx) | simpa using hx) hq) hs hg
  unfold seqIndex?
  simp
  lia
section
variable {p : Program} {loose : List Str} {mg mb : Str → Option Value} {w : World} {dp un : Nat} {fr : Option (List Env)} {gd : Option (List Code)} {h₀ : Heap} {s : Shared} {Q : Value → Shared → Prop}
theorem law_meets (X : (hd.heap_1 w.params).In h₀) (T : TopRead p loose mg mb h₀) (H : Sub h₀ s.heap) (hdp : dp + 2 < recursionLimit) (hun : un + 50 < cLine)
  {v u : Value} {na nb : Int} {a b : List Int} (ha : DatH s.heap v (locD na a)) (hb : DatH s.heap u (locD nb b)) (hsz : a.length + b.length ≤ 1000)
  (ret : ∀ r h' tk', Sub s.heap h' → (r = true ↔ na = nb ∧ meetB a b = true) → Q (.bool r) {s with heap := h', toks := tk'}) :
  wpAny (model PySem.Challenge.rw_on0014_01.prog w) (Ar dp fr gd un) (call (.ref 269) [v, u]) Q (fun _ _ => False) s := by
  revert X; k_fill; intro X
  refine wpAny_call ?_
  k_dflt (refine' enter (f := 269) [] [("one", v), ("other", u)] X T H ?o ?k1 ?k2 ?k3 ?k4 ?k5 ?k6 ?k7 ?k8 ?k9 ?_; (case o => first | exact Mine.all_nil | simp); (case k1 => k_is); (case k2 => k_is); (case k3 => first | exact Nat.lt_of_le_of_lt (Nat.le_add_right _ _) hdp | lia); (case k4 => rfl); (case k5 => exact locs rfl); (case k6 => decide); (case k7 => rfl); (case k8 => rfl); (case k9 => rfl))
  intro g L h₁ fr' A' e_ s1_ m0 Hg Hs Hk F N X T
  have Hk' : Sub s.heap g := Hk.sub
  refine Mine.byv fun P_ kP_ => ?_
  obtain ⟨aa, vs, n1, rfl, ha1, hda⟩ := ha.untuple
  obtain ⟨ab, us, n2, rfl, hb1, hdb⟩ := hb.untuple
  obtain ⟨va, vp, rfl, hva, hvp⟩ := hda.two
  obtain ⟨ub, up, rfl, hub, hup⟩ := hdb.two
  obtain ⟨ta, rfl⟩ := hva.unint
  obtain ⟨tb, rfl⟩ := hub.unint
  obtain ⟨pa, ps, n3, rfl, ha2, hdps⟩ := id hvp.untuple
  obtain ⟨pb, qs, n4, rfl, hb2, hdqs⟩ := id hup.untuple
  refine kP_ ?_
  clear kP_ P_
  iterate 13 walk1
  rename Fr g L _ _ => F1
  rename News g L _ [] => N1
  have up1 : Sub s.heap h₁ := Hk'.trans (Fr.toSub F1)
  have la : ps.length = a.length := by simpa using hdps.length
  have lb : qs.length = b.length := by simpa using hdqs.length
  refine tup_tail (k := 1) (up1 _ _ ha1) rfl (by first | exact nin_nil | exact all_nil | ((repeat (first | exact .head _ | refine .tail _ ?_)); done) | simp) ?_
  walk1
  refine PySem.P.len_tuple (n := n3) (items := ps.toArray) (up1 _ _ ha2) (by simp; (first | exact ar101 hsz la | lia)) ?_
  iterate 8 walk1
  refine tup_tail (k := 1) (up1 _ _ hb1) rfl (by first | exact nin_nil | exact all_nil | ((repeat (first | exact .head _ | refine .tail _ ?_)); done) | simp) ?_
  walk1
  refine PySem.P.len_tuple (n := n4) (items := qs.toArray) (up1 _ _ hb2) (by simp; (first | exact ar351 hsz lb | lia)) ?_
  iterate 11 walk1
  have hmin : (if (qs.toArray.size : Int) < (ps.toArray.size : Int) then (qs.toArray.size : Int) else (ps.toArray.size : Int)) = ((min a.length b.length : Nat) : Int) := by
    rw [List.size_toArray, List.size_toArray, la, lb]; split <;> lia
  rename Fr g L _ _ => F2
  rename News g L _ [] => N2
  rw [hmin] at F2
  have up2 := Hk'.trans (Fr.toSub F2)
  (try clear F1); (try clear N1); (try clear F); (try clear N)
  refine tup_tail (k := 0) (up2 _ _ ha1) rfl (by first | exact nin_nil | exact all_nil | ((repeat (first | exact .head _ | refine .tail _ ?_)); done) | simp) ?_
  iterate 3 walk1
  refine tup_tail (k := 0) (up2 _ _ hb1) rfl (by first | exact nin_nil | exact all_nil | ((repeat (first | exact .head _ | refine .tail _ ?_)); done) | simp) ?_
  k_steps
  · rename_i heq
    refine tup_tail (k := 1) (up2 _ _ ha1) rfl (by first | exact nin_nil | exact all_nil | ((repeat (first | exact .head _ | refine .tail _ ?_)); done) | simp) ?_
    iterate 6 walk1
    refine path_tail (u := _) F2 N2 (up2 _ _ ha2) (hdps.up up2) (by (first | exact ar276 hsz | lia)) fun r1 h5 F5 N5 k5 hd5 => ?_
    have up5 := Hk'.trans (Fr.toSub F5)
    iterate 4 walk1
    refine tup_tail (k := 1) (up5 _ _ hb1) rfl (by first | exact nin_nil | exact all_nil | ((repeat (first | exact .head _ | refine .tail _ ?_)); done) | simp) ?_
    iterate 6 walk1
    refine path_tail (u := _) F5 N5 (up5 _ _ hb2) (hdqs.up up5) (by (first | exact ar79 hsz | lia)) fun r2 h6 F6 N6 k6 hd6 => ?_
    skip
    refine eq_dat (n := 2) (pathD_ok _) (pathD_ok _) (hd5.up k6) hd6 (Mine.room hun) fun r hr => ?_
    (try k_steps)
    refine ret r _ _ (Hk'.trans (Fr.toSub F6)) (hr.trans ?_)
    rw [← take_min, decide_eq_true_eq]
    exact ⟨fun q => ⟨by simpa using heq, by have := congrArg unPath q; rwa [unPath_pathD, unPath_pathD] at this⟩, fun q => by rw [q.2]⟩
  · rename_i heq
    k_steps
    (try k_steps)
    show Q (.bool _) _
    (try k_steps)
    exact ret _ _ _ (Hk'.trans (Fr.toSub F2)) ⟨fun q => absurd q (by first | exact Mine.nin1 (heq) | exact Mine.all1 (heq) | simpa using heq), fun q => by simpa using q.1⟩
end
noncomputable def fstIs (i : Int) : Dat → Bool
  | .tuple (.int a :: _) => decide (a = i)
  | _ => false
theorem fst_filter (sp : List (Int × Int)) (i : Int) : (sp.map spanD).filter (fstIs i) = (sp.filter fun q => decide (q.1 = i)).map spanD := by
  rw [List.filter_map]; rfl
theorem new_none {h₀ s0 v0 g v : Heap} {fp : List Addr} {L : Addr} {own : List (Addr × Obj)} {h : Heap} {m : Str → Option Value} (Z : Ctx h₀ s0 v0 fp g L own v) (F : Fr g L h m) {a : Addr} (hn : g.get? a = none) (ha : a ∉ fp) : s0.get? a = none := by
  cases q : s0.get? a with
  | none => rfl
  | some o =>
    have := Z.hk _ _ ha q
    rw [hn] at this; cases this
section
variable {w : World} {A : Around} {E : Value → Shared → Prop} {s : Shared} {v : Heap} {K : Addr} {kl : List Addr} {kn : List (List (Int × Int))}
theorem known_tail (DK : KnownAt w v K kl kn) (V : Sub v s.heap) {i : Nat} {l : Addr} (h1 : kl[i]? = some l) {value slice : Expr} {t : Tok} {Q : Value → Shared → Prop} (h : Q (.ref l) { s with toks := s.toks + 1 })
    (hs : subscripted slice false (.ref K) (.int (i : Int) t) = operate [.ref K, .int (i : Int) t] (PySem.getItem (.ref K) (.int (i : Int) t)) := by with_unfolding_all rfl) : wpAny (model PG w) A (subscriptTail value slice (.ref K) (.int (i : Int) t)) Q E s := by
  refine Mine.byv fun P_ kP_ => ?_
  obtain ⟨_, _, ⟨kvs, D, _, e⟩, _⟩ := DK
  refine kP_ ?_
  clear kP_ P_
  refine dict_tail D V (v := .ref l) ?_ h hs
  rw [e]; simp [h1]
theorem known_set (DK : KnownAt w v K kl kn) (V : Sub v s.heap) (hK : K ∉ kl) {i : Nat} (hi : i < kl.length) (hkl : kl.length ≤ 100) {D : Addr} {sp : List (Int × Int)} (hD : ListAt v D (sp.map spanD)) (hDK : D ≠ K) {t : Tok} {Q : Unit → Shared → Prop}
    (h : ∀ v' h', Post s.heap v v' h' [K] → KnownAt w v' K (kl.set i D) (kn.set i sp) → Q () { s with heap := h', toks := s.toks + 1 }) : wpAny (model PG w) A (PySem.setItem (.ref K) (.int (i : Int) t) (.ref D)) Q E s := by
  refine Mine.byv fun P_ kP_ => ?_
  obtain ⟨a, b, ⟨kvs, Dk, hl, e⟩, f⟩ := DK
  refine kP_ ?_
  clear kP_ P_
  refine wpAny_setItem_pairs (intKind_is PG w (i : Int) t) (Dk.keep V) (fun h' hD' hs => ?_) (by rw [sizeLine_eq]; (first | exact ar84 hkl hl | lia))
  have hk : Keeps [K] s.heap h' := fun b o hb e => (hs.2 b (by first | exact Mine.nin1 (hb) | exact Mine.all1 (hb) | simpa using hb)).trans e
  refine Mine.byv fun P_ kP_ => ?_
  obtain ⟨o, ho, hO⟩ := Heap.dictOf_iff.mp hD'
  obtain ⟨o', ho', _⟩ := Heap.dictOf_iff.mp Dk
  obtain ⟨v', P, hv'⟩ := Post.one V ⟨o', ho'⟩ hk ho
  refine kP_ ?_
  clear kP_ P_
  exact h v' h' P (.put a b Dk hl e f P.keeps hK hi hD hDK (Heap.dictOf_iff.mpr ⟨o, hv', hO⟩))
theorem KnownAt.ne (DK : KnownAt w v K kl kn) {D : Addr} {o : Obj} (e : v.get? D = some o) (h : o.cls = .type "list") : D ≠ K := fun q => by
  refine Mine.byv fun P_ kP_ => ?_
  obtain ⟨_, _, ⟨_, ⟨o', _, _, ho, hc, _⟩, _⟩, _⟩ := DK
  refine kP_ ?_
  clear kP_ P_
  rw [← q, e] at ho; cases ho
  exact absurd (hc.1.symm.trans h) (by first | exact nin_nil | exact all_nil | ((repeat (first | exact .head _ | refine .tail _ ?_)); done) | simp)
theorem known_put (DK : KnownAt w v K kl kn) (V : Sub v s.heap) (hK : K ∉ kl) (hkl : kl.length ≤ 100) {D : Addr} {sp : List (Int × Int)} (hD : ListAt v D (sp.map spanD)) (hDK : D ≠ K) {t : Tok} {Q : Unit → Shared → Prop} {k : Int} (hk : k = (kl.length : Int))
    (h : ∀ v' h', Post s.heap v v' h' [K] → KnownAt w v' K (kl ++ [D]) (kn ++ [sp]) → Q () { s with heap := h', toks := s.toks + 1 }) : wpAny (model PG w) A (PySem.setItem (.ref K) (.int k t) (.ref D)) Q E s := by
  subst hk
  refine Mine.byv fun P_ kP_ => ?_
  obtain ⟨a, b, ⟨kvs, Dk, hl, e⟩, f⟩ := DK
  refine kP_ ?_
  clear kP_ P_
  refine wpAny_setItem_pairs (intKind_is PG w (kl.length : Int) t) (Dk.keep V) (fun h' hD' hs => ?_) (by rw [sizeLine_eq]; (first | exact ar84 hkl hl | lia))
  have hk : Keeps [K] s.heap h' := fun b o hb e => (hs.2 b (by first | exact Mine.nin1 (hb) | exact Mine.all1 (hb) | simpa using hb)).trans e
  refine Mine.byv fun P_ kP_ => ?_
  obtain ⟨o, ho, hO⟩ := Heap.dictOf_iff.mp hD'
  obtain ⟨o', ho', _⟩ := Heap.dictOf_iff.mp Dk
  obtain ⟨v', P, hv'⟩ := Post.one V ⟨o', ho'⟩ hk ho
  refine kP_ ?_
  clear kP_ P_
  exact h v' h' P (.add a b Dk hl e f P.keeps hK hD hDK (Heap.dictOf_iff.mpr ⟨o, hv', hO⟩))
end
section
variable {p : Program} {loose : List Str} {mg mb : Str → Option Value} {w : World} {dp un : Nat} {fr : Option (List Env)} {gd : Option (List Code)} {h₀ v : Heap} {s : Shared} {Q : Value → Shared → Prop}
theorem law_told (X : (hd.heap_1 w.params).In h₀) (T : TopRead p loose mg mb h₀) (H : Sub h₀ v) (V : Sub v s.heap) (hdp : dp + 3 < recursionLimit) (hun : un + 60 < cLine)
  {K : Addr} {kl : List Addr} {kn : List (List (Int × Int))} (DK : KnownAt w v K kl kn) (hoff : h₀.get? K = none) (hKl : K ∉ kl) {i : Nat} {ti : Tok} {l : Addr} {sp : List (Int × Int)} (h1 : kl[i]? = some l) (h2 : kn[i]? = some sp) (hsp : sp.length ≤ 1000) (hkl : kl.length ≤ 10)
  (ret : ∀ r D v' h' tk', Post s.heap v v' h' [K] → KnownAt w v' K (kl.set i D) (kn.set i (sp ++ [((i : Int), ((sp.filter fun q => decide (q.1 = (i : Int))).length : Int) + 1)])) → ListAt v' r (sp.map spanD) → s.heap.get? r = none → s.heap.get? D = none → Q (.ref r) {s with heap := h', toks := tk'}) :
  wpAny (model PySem.Challenge.rw_on0014_01.prog w) (Ar dp fr gd un) (call (.ref 257) [.ref K, .int (i : Int) ti]) Q (fun _ _ => False) s := by
  have X0 := X
  have T0 := T
  revert X; k_fill; intro X
  refine wpAny_call ?_
  k_dflt (refine' intoC (f := 257) [K] [("known", .ref K), ("who", .int (i : Int) ti)] X T H V ?o1 ?o2 ?k1 ?k2 ?k3 ?k4 ?k5 ?k6 ?k7 ?k8 ?k9 ?_; (case o1 => first | exact Mine.all1 hoff | simpa using hoff); (case o2 => first | exact Mine.all1 DK.alive | simpa using DK.alive); (case k1 => k_is); (case k2 => k_is); (case k3 => first | exact Nat.lt_of_le_of_lt (Nat.le_add_right _ _) hdp | lia); (case k4 => exact BindsTo.of_eq rfl); (case k5 => exact rfl); (case k6 => decide +kernel); (case k7 => rfl); (case k8 => rfl); (case k9 => rfl))
  intro g L h₁ tk1 fr' cells own A' e_ s1_ m0 Z F N Y hcn Xg Tg hsz
  k_cells Y
  simp only [List.cons_append, List.nil_append] at N
  refine Mine.byv fun P_ kP_ => ?_
  obtain ⟨vs, n, hl, hd⟩ := DK.list h1 h2
  refine kP_ ?_
  clear kP_ P_
  have hvl : vs.length = sp.length := by simpa using hd.length
  iterate 11 walk1
  rename Fr g L _ _ => F1
  rename News g L _ (_ :: own) => N1
  refine known_tail DK (Z.sub F1 N1 fun _ h => .tail _ h) h1 ?_
  walk1
  rename Fr g L _ _ => F2
  rename News g L _ (_ :: own) => N2
  refine list_copyK F2 N2 ⟨_, Z.sub F2 N2 (fun _ h => .tail _ h) _ _ hl, rfl, n, rfl⟩ (fun D1 c1 hh1 F3 N3 l1 => ?_) (by rw [sizeLine_eq]; simp; (first | exact ar306 hsp hvl | lia))
  (try dsimp only)
  (try clear F1); (try clear N1); (try clear F2); (try clear N2); (try clear F); (try clear N)
  iterate 5 walk1
  k_dflt (refine LCt.ListComp_T (F₀ := by k_asm) (by with_unfolding_all rfl) (by decide) (by rfl) (by decide) (by rfl) ?_)
  iterate 3 walk1
  rename Fr g L _ _ => F4
  rename News g L _ (_ :: _ :: own) => N4
  refine known_tail DK (Z.sub F4 N4 fun _ h => .tail _ (.tail _ h)) h1 ?_
  rename Fr g L _ _ => F5
  rename News g L _ (_ :: _ :: own) => N5
  (try clear F3); (try clear N3)
  refine comp_dat rfl Z F5 N5 (fun _ h => .tail _ (.tail _ h)) hl hd (by (first | exact ar31 hsp hvl | lia)) (fstIs (i : Int)) ?test ?item ?fin
  case test =>
    intro d hdm a I oI C oC D m₂ ys h' tk' E' hda hC hx F' N' off' ne'
    refine Mine.byv fun P_ kP_ => ?_
    obtain ⟨q, hq, rfl⟩ := List.mem_map.mp hdm
    obtain ⟨ta, us, nu, rfl, hta, hus⟩ := hda.untuple
    obtain ⟨x1, x2, rfl, hx1, hx2⟩ := hus.two
    obtain ⟨tx1, rfl⟩ := hx1.unint
    refine kP_ ?_
    clear kP_ P_
    simp only [LCg.Off3] at off'
    have hta' := Z.sub F' N' (fun _ h => .tail _ (.tail _ (.tail _ (.tail _ (.tail _ h))))) _ _ hta
    (try dsimp only)
    iterate 4 walk1
    refine tup_tail (k := 0) hta' rfl (by first | exact nin_nil | exact all_nil | ((repeat (first | exact .head _ | refine .tail _ ?_)); done) | simp) ?_
    k_steps
  case item =>
    intro a I oI C oC D m₂ ys h' tk' E' hC hx F' N' off' ne'
    simp only [LCg.Off3] at off'
    (try dsimp only)
    k_steps
  intro D2 h2' tk2' ys F6 N6 hys hyl
  (try dsimp only)
  walk1
  refine call_len_list ⟨_, (N6 _ (.head _)).1, rfl, _, rfl⟩ (by simp; (first | exact ar372 hsp hvl hyl | lia)) ?_
  iterate 17 walk1
  rename Fr g L _ _ => F7
  rename News g L _ _ => N7
  refine known_tail DK (Z.sub F7 N7 fun p hp => by repeat (first | exact hp | refine List.Mem.tail _ ?_)) h1 ?_
  iterate 14 walk1
  rename Fr g L _ _ => F8
  rename News g L _ _ => N8
  (try clear F7); (try clear N7); (try clear F6); (try clear N6)
  refine add_lists (vs := vs) (ws := [_]) F8 N8 ⟨_, Z.sub F8 N8 (fun p hp => by repeat (first | exact hp | refine List.Mem.tail _ ?_)) _ _ hl, rfl, n, rfl⟩ ⟨_, (N8 _ (.head _)).1, rfl, _, rfl⟩ (fun h9 F9 N9 => ?_) (by rw [sizeLine_eq]; simp; (first | exact ar305 hsp hvl | lia))
  (try clear F8); (try clear N8)
  (try dsimp only)
  iterate 2 walk1
  rename Fr g L _ _ => F10
  rename News g L _ _ => N10
  refine Z.growK F10 N10 (fun p hp => by repeat (first | exact hp | refine List.Mem.tail _ ?_)) fun vs10  Z10  kv  kh  kn10 => ?_
  have DK10 := DK.up kv
  have e1 := kn10 _ (.head _)
  have hne := DK10.ne e1 rfl
  have eD1 := kn10 (D1, PySem.W.listOf vs.toArray c1) (by simp only [List.mem_cons, true_or, or_true])
  have hlen : ys.length = (sp.filter fun q => decide (q.1 = (i : Int))).length := by
    rw [hys.length, fst_filter, List.length_map]
  have hi : i < kl.length := (List.getElem?_eq_some_iff.mp h1).1
  refine known_set DK10 kh hKl hi (by (first | exact ar66 hkl | lia)) (sp := sp ++ [((i : Int), ((sp.filter fun q => decide (q.1 = (i : Int))).length : Int) + 1)]) ⟨_, _, e1, by
    rw [List.map_append]
    refine (hd.up kv).append (DatsH.cons (DatH.tuple (n := 0) (vs := [_, _]) (kn10 _ (.tail _ (.tail _ (.head _)))) (DatsH.cons (DatH.int _ _ _) (DatsH.cons ?_ (DatsH.nil _)))) (DatsH.nil _))
    rw [← hlen, ← List.size_toArray]
    exact DatH.int _ _ _⟩ hne fun v' h' P DK' => ?_
  refine Z10.backK F10 N10 P (by first | exact Mine.nin1 (Z.offg K (by first | exact nin_nil | exact all_nil | ((repeat (first | exact .head _ | refine .tail _ ?_)); done) | simp)) | exact Mine.all1 (Z.offg K (by first | exact nin_nil | exact all_nil | ((repeat (first | exact .head _ | refine .tail _ ?_)); done) | simp)) | simpa using Z.offg K (by first | exact nin_nil | exact all_nil | ((repeat (first | exact .head _ | refine .tail _ ?_)); done) | simp)) (by first | exact Mine.nin1 (DK10.alive) | exact Mine.all1 (DK10.alive) | simpa using DK10.alive) ?_
  intro own' mm_ Z'  F'  N'
  (try (refine Mine.wp_let ?_; intro sQ23_))
  have hD1K : D1 ≠ K := DK10.ne eD1 rfl
  have gD := (N10 _ (.head _)).2.2
  have gD1 := (N10 (D1, PySem.W.listOf vs.toArray c1) (by simp only [List.mem_cons, true_or, or_true])).2.2
  have nD := new_none Z F' gD (by first | exact Mine.nin1 (hne) | exact Mine.all1 (hne) | simpa using hne)
  have nD1 := new_none Z F' gD1 (by first | exact Mine.nin1 (hD1K) | exact Mine.all1 (hD1K) | simpa using hD1K)
  (try clear F10); (try clear N10); (try clear F9); (try clear N9)
  (try dsimp only at F' N' ⊢)
  k_steps
  (try k_steps)
  show Q (.ref D1) _
  (try k_steps)
  exact ret D1 _ v' _ _ (Z'.post ‹_› ‹_›) DK' ⟨vs, c1, P.keeps _ _ (by first | exact Mine.nin1 (hD1K) | exact Mine.all1 (hD1K) | simpa using hD1K) eD1, (hd.up kv).keeps P.keeps DK10.noTup⟩ nD1 nD
end
theorem nodup_len {α : Type} [BEq α] [LawfulBEq α] : ∀ {l l' : List α}, l.Nodup → (∀ x ∈ l, x ∈ l') → l.length ≤ l'.length
  | [], _, _, _ => by simp
  | x :: l, l', hn, h => by
    have hx := List.nodup_cons.mp hn
    have := nodup_len (l := l) (l' := l'.erase x) hx.2 fun y hy => (List.mem_erase_of_ne (fun e : y = x => hx.1 (by rw [← e]; exact hy))).mpr (h y (.tail _ hy))
    rw [List.length_erase_of_mem (h x (.head _))] at this
    have : 0 < l'.length := List.length_pos_of_mem (h x (.head _))
    simp only [List.length_cons]; (first | exact ar314 (by assumption) this | lia)
/-- a row of what was seen -/
structure SeenR where
  who : Int
  word : Str
  num : Int
  path : List Int
  k : Int
noncomputable def updc (c : Int → Int → Int) (g : Int) (f : Int → Int) : Int → Int → Int := fun a => if a = g then f else c a
/-- a list of spans holds just what the counts e say -/
noncomputable def Spans (sp : List (Int × Int)) (e : Int → Int) : Prop := sp.Nodup ∧ ∀ x y : Int, (x, y) ∈ sp ↔ 1 ≤ y ∧ y ≤ e x
noncomputable def ownS (g : Int) (m : Int) : List (Int × Int) := (List.range m.toNat).map fun i : Nat => (g, (i : Int) + 1)
noncomputable def moreS (sp more : List (Int × Int)) : List (Int × Int) := sp ++ more.filter fun p => decide (p ∉ sp)
/-- what the marks say of what was seen -/
noncomputable def Marks (seen : List SeenR) (word : Str) (wf : Int → List Int → Int → Int) : Prop := ∀ num path o t, 0 ≤ t → (wf num path o > t ↔ ∃ r ∈ seen, r.who = o ∧ r.word = word ∧ r.num = num ∧ r.path = path ∧ r.k > t)
structure Inv (N : Nat) (B : Int) (c : Int → Int → Int) (gc : Int → Int) (wf rf : Int → List Int → Int → Int) (kn : List (List (Int × Int))) (gates : List (Int × Int)) (seen : List SeenR) : Prop where
  len : kn.length = N
  nn : ∀ (g : Nat) (x : Int), g < N → 0 ≤ c g x
  gnn : ∀ x, 0 ≤ gc x
  know : ∀ (g : Nat) sp, kn[g]? = some sp → Spans sp (c g)
  own : ∀ (g : Nat) sp, kn[g]? = some sp → sp.filter (fun p => decide (p.1 = (g : Int))) = ownS g (c g g)
  top : ∀ g h : Nat, g < N → h < N → c h g ≤ c g g
  gtop : ∀ g : Nat, g < N → gc g ≤ c g g
  gate : Spans gates gc
  bnd : ∀ g : Nat, g < N → c g g ≤ B
  out : ∀ (g : Nat) (x : Int), g < N → (x < 0 ∨ (N : Int) ≤ x) → c g x = 0
  gout : ∀ x : Int, (x < 0 ∨ (N : Int) ≤ x) → gc x = 0
  pos : ∀ g : Nat, g < N → 1 ≤ c g g
  sok : ∀ r ∈ seen, ∃ n : Nat, n < N ∧ r.who = n ∧ (r.word = readW ∨ r.word = writeW) ∧ 1 ≤ r.k ∧ r.k ≤ c r.who r.who
  wfs : Marks seen writeW wf
  rfs : Marks seen readW rf
theorem updc_at (c : Int → Int → Int) (g : Int) (f : Int → Int) : updc c g f g = f := if_pos rfl
theorem updc_ne (c : Int → Int → Int) {g a : Int} (f : Int → Int) (h : a ≠ g) : updc c g f a = c a := if_neg h
theorem ownS_succ {g m : Int} (h : 0 ≤ m) : ownS g (m + 1) = ownS g m ++ [(g, m + 1)] := by
  unfold ownS
  obtain ⟨n, rfl⟩ := Int.eq_ofNat_of_zero_le h
  rw [show ((n : Int) + 1).toNat = n + 1 by lia, List.range_succ, List.map_append]
  simp
theorem Spans.len {sp : List (Int × Int)} {e : Int → Int} {B : Nat} (h : Spans sp e) (hb : ∀ x, e x ≤ B) (ho : ∀ x : Int, (x < 0 ∨ 4 ≤ x) → e x ≤ 0) : sp.length ≤ 4 * B := by
  have : sp.length ≤ (([0, 1, 2, 3] : List Int).flatMap fun i => (List.range B).map fun j : Nat => (i, (j : Int) + 1)).length := nodup_len h.1 fun p hp => by
    obtain ⟨x, y⟩ := p
    have h1 := (h.2 x y).mp hp
    have h2 := hb x
    have hx : ¬ (x < 0 ∨ 4 ≤ x) := fun q => by have := ho x q; (first | exact ar164 h1 this | lia)
    refine List.mem_flatMap.mpr ⟨x, ?_, List.mem_map.mpr ⟨(y - 1).toNat, by simp; lia, ?_⟩⟩
    · have : x = 0 ∨ x = 1 ∨ x = 2 ∨ x = 3 := by lia
      rcases this with rfl | rfl | rfl | rfl <;> simp
    · have : ((y - 1).toNat : Int) + 1 = y := by lia
      rw [this]
  simp at this
  lia
theorem Spans.more {sp more : List (Int × Int)} {e f : Int → Int} (h : Spans sp e) (k : Spans more f) : Spans (moreS sp more) fun x => max (e x) (f x) := by
  refine ⟨List.nodup_append.mpr ⟨h.1, k.1.filter _, fun a ha b hb q => ?_⟩, fun x y => ?_⟩
  · cases q
    have := (List.mem_filter.mp hb).2
    exact (of_decide_eq_true this) ha
  · unfold moreS
    rw [List.mem_append, List.mem_filter, decide_eq_true_eq]
    simp only [h.2 x y, k.2 x y]
    constructor
    · rintro (q | q) <;> lia
    · intro q
      by_cases r : y ≤ e x
      · exact .inl ⟨q.1, r⟩
      · exact .inr ⟨⟨q.1, by lia⟩, by (first | exact ar171 r | lia)⟩
theorem Spans.tell {sp : List (Int × Int)} {e : Int → Int} {g : Int} (h : Spans sp e) (h0 : 0 ≤ e g) : Spans (sp ++ [(g, e g + 1)]) fun x => if x = g then e g + 1 else e x := by
  refine ⟨List.nodup_append.mpr ⟨h.1, by simp, fun a ha b hb q => ?_⟩, fun x y => ?_⟩
  · cases q
    rw [List.mem_singleton.mp hb, h.2] at ha
    (first | exact ar156 ha | lia)
  · rw [List.mem_append, h.2 x y, List.mem_singleton, Prod.mk.injEq]
    by_cases q : x = g
    · cases q
      simp only [if_true]
      constructor
      · rintro (r | ⟨_, r⟩) <;> lia
      · intro r
        by_cases t : y ≤ e g
        · exact .inl ⟨r.1, t⟩
        · exact .inr ⟨trivial, by (first | exact ar163 r t | lia)⟩
    · simp only [if_neg q]
      constructor
      · intro hp0_
        obtain (r | ⟨r, _⟩) := hp0_
        · exact r
        · exact absurd r q
      · exact .inl
section
variable {N : Nat} {B : Int} {c : Int → Int → Int} {gc : Int → Int} {wf rf : Int → List Int → Int → Int} {kn : List (List (Int × Int))} {gates : List (Int × Int)} {seen : List SeenR}
theorem Inv.setK (I : Inv N B c gc wf rf kn gates seen) {g : Nat} (hg : g < N) {sp' : List (Int × Int)} {f : Int → Int} {B' : Int} (hB : B ≤ B') (hs : Spans sp' f) (hnn : ∀ x, 0 ≤ f x) (hown : sp'.filter (fun p => decide (p.1 = (g : Int))) = ownS g (f g))
    (hup : ∀ x, c g x ≤ f x) (htop : ∀ h : Nat, h < N → h ≠ g → f h ≤ c h h) (hbnd : f g ≤ B') (hout : ∀ x : Int, (x < 0 ∨ (N : Int) ≤ x) → f x = 0) :
    Inv N B' (updc c g f) gc wf rf (kn.set g sp') gates seen := by
  have ne : ∀ {h : Nat}, h ≠ g → (h : Int) ≠ g := fun q r => q (Int.ofNat_inj.mp r)
  have get : ∀ (h : Nat) sp, (kn.set g sp')[h]? = some sp → (h = g ∧ sp = sp') ∨ (h ≠ g ∧ kn[h]? = some sp) := fun h sp e => by
    by_cases q : h = g
    · cases q
      rw [List.getElem?_set_self (by rw [I.len]; exact hg)] at e
      exact .inl ⟨rfl, (Option.some.inj e).symm⟩
    · rw [List.getElem?_set_ne (fun r => q r.symm)] at e
      exact .inr ⟨q, e⟩
  have up : ∀ h : Nat, ∀ x, c h x ≤ updc c g f h x := fun h x => by
    by_cases q : h = g
    · cases q; rw [updc_at]; exact hup x
    · rw [updc_ne _ _ (ne q)]; exact Int.le_refl _
  refine ⟨by rw [List.length_set]; exact I.len, fun h x hh => ?_, I.gnn, fun h sp e => ?_, fun h sp e => ?_, fun a b ha hb => ?_, fun h hh => Int.le_trans (I.gtop h hh) (up h _), I.gate, fun h hh => ?_, fun h x hh hx => ?_, I.gout, fun h hh => Int.le_trans (I.pos h hh) (up h _), fun r hr => ?_, I.wfs, I.rfs⟩
  · exact Int.le_trans (I.nn h x hh) (up h x)
  · rcases get h sp e with ⟨rfl, rfl⟩ | ⟨q, e⟩
    · rw [updc_at]; exact hs
    · rw [updc_ne _ _ (ne q)]; exact I.know h sp e
  · rcases get h sp e with ⟨rfl, rfl⟩ | ⟨q, e⟩
    · rw [updc_at]; exact hown
    · rw [updc_ne _ _ (ne q)]; exact I.own h sp e
  · by_cases q : b = g
    · cases q
      by_cases r : a = g
      · cases r; exact Int.le_refl _
      · rw [updc_at, updc_ne _ _ (ne r)]; exact htop a ha r
    · rw [updc_ne _ _ (ne q)]
      exact Int.le_trans (I.top a b ha hb) (up a _)
  · by_cases q : h = g
    · cases q; rw [updc_at]; exact hbnd
    · rw [updc_ne _ _ (ne q)]; exact Int.le_trans (I.bnd h hh) hB
  · by_cases q : h = g
    · cases q; rw [updc_at]; exact hout x hx
    · rw [updc_ne _ _ (ne q)]; exact I.out h x hh hx
  · obtain ⟨n, h1, h2, h3, h4, h5⟩ := I.sok r hr
    exact ⟨n, h1, h2, h3, h4, Int.le_trans h5 (by rw [h2]; exact up n _)⟩
theorem Inv.cap (I : Inv N B c gc wf rf kn gates seen) (g : Nat) (hg : g < N) (x : Int) : c g x ≤ B := by
  by_cases q : x < 0 ∨ (N : Int) ≤ x
  · rw [I.out g x hg q]
    have := I.pos g hg
    have := I.bnd g hg
    (first | exact ar165 (by assumption) this | lia)
  · obtain ⟨n, rfl⟩ := Int.eq_ofNat_of_zero_le (a := x) (by (first | exact ar54 q | lia))
    exact Int.le_trans (I.top n g (by (first | exact ar15 q | lia)) hg) (I.bnd n (by (first | exact ar15 q | lia)))
theorem Inv.tell (I : Inv N B c gc wf rf kn gates seen) {g : Nat} {sp : List (Int × Int)} (e : kn[g]? = some sp) :
    Inv N (B + 1) (updc c g fun x => if x = g then c g g + 1 else c g x) gc wf rf (kn.set g (sp ++ [((g : Int), c g g + 1)])) gates seen := by
  have hg : g < N := by
    have := (List.getElem?_eq_some_iff.mp e).1
    rw [I.len] at this; exact this
  have h0 := I.nn g g hg
  refine I.setK hg (by (first | exact ar9 | lia)) ((I.know g sp e).tell h0) (fun x => ?_) ?_ (fun x => ?_) (fun h hh q => ?_) ?_ (fun x hx => ?_)
  · have := I.nn g x hg
    split <;> lia
  · rw [List.filter_append, I.own g sp e, if_pos rfl, ownS_succ h0]
    simp
  · by_cases q : x = g
    · rw [if_pos q, q]; (first | exact ar9 | lia)
    · rw [if_neg q]; exact Int.le_refl _
  · have : (h : Int) ≠ g := fun r => q (Int.ofNat_inj.mp r)
    rw [if_neg this]
    exact I.top h g hh hg
  · rw [if_pos rfl]
    have := I.bnd g hg; (first | exact ar168 this | lia)
  · have : x ≠ g := by (first | exact ar336 hg hx | lia)
    rw [if_neg this]
    exact I.out g x hg hx
theorem own_more {sp more : List (Int × Int)} {g m : Int} {f : Int → Int} (h : sp.filter (fun p => decide (p.1 = g)) = ownS g m) (hk : ∀ x y : Int, (x, y) ∈ more ↔ 1 ≤ y ∧ y ≤ f x) (hs : ∀ y : Int, 1 ≤ y → y ≤ m → (g, y) ∈ sp) (hf : f g ≤ m) :
    (moreS sp more).filter (fun p => decide (p.1 = g)) = ownS g m := by
  have : (more.filter fun p => decide (p ∉ sp)).filter (fun p => decide (p.1 = g)) = [] := by
    rw [List.filter_eq_nil_iff]
    intro hp0_ hp
    obtain ⟨x, y⟩ := hp0_
    have h1 := List.mem_filter.mp hp
    have h2 := (hk x y).mp h1.1
    have h3 : (x, y) ∉ sp := of_decide_eq_true h1.2
    intro q
    obtain rfl : x = g := of_decide_eq_true q
    exact h3 (hs y h2.1 (by (first | exact ar174 h2 hf | lia)))
  unfold moreS
  rw [List.filter_append, this, List.append_nil, h]
theorem Inv.learn (I : Inv N B c gc wf rf kn gates seen) {g : Nat} {sp more : List (Int × Int)} {f : Int → Int} (e : kn[g]? = some sp) (hm : Spans more f) (hf : ∀ h : Nat, h < N → f h ≤ c h h) (hout : ∀ x : Int, (x < 0 ∨ (N : Int) ≤ x) → f x = 0) :
    Inv N B (updc c g fun x => max (c g x) (f x)) gc wf rf (kn.set g (moreS sp more)) gates seen := by
  have hg : g < N := by
    have := (List.getElem?_eq_some_iff.mp e).1
    rw [I.len] at this; exact this
  have hfg := hf g hg
  have hmax : max (c g g) (f g) = c g g := by (first | exact ar169 hfg | lia)
  refine I.setK hg (Int.le_refl _) ((I.know g sp e).more hm) (fun x => ?_) ?_ (fun x => ?_) (fun h hh q => ?_) ?_ (fun x hx => ?_)
  · have := I.nn g x hg; (first | exact ar47 this | lia)
  · rw [hmax]
    exact own_more (I.own g sp e) hm.2 (fun y h1 h2 => ((I.know g sp e).2 _ _).mpr ⟨h1, h2⟩) hfg
  · (first | exact ar162 | lia)
  · have := I.top h g hh hg
    have := hf h hh
    (first | exact ar52 (by assumption) this | lia)
  · rw [hmax]; exact I.bnd g hg
  · rw [I.out g x hg hx, hout x hx]; rfl
theorem Inv.gated (I : Inv N B c gc wf rf kn gates seen) {more : List (Int × Int)} {f : Int → Int} (hm : Spans more f) (hnn : ∀ x, 0 ≤ f x) (hf : ∀ h : Nat, h < N → f h ≤ c h h) (hout : ∀ x : Int, (x < 0 ∨ (N : Int) ≤ x) → f x = 0) :
    Inv N B c (fun x => max (gc x) (f x)) wf rf kn (moreS gates more) seen :=
  ⟨I.len, I.nn, fun x => by have := I.gnn x; (first | exact ar47 this | lia), I.know, I.own, I.top, fun h hh => by have := I.gtop h hh; have := hf h hh; (first | exact ar52 (by assumption) this | lia), I.gate.more hm, I.bnd, I.out, fun x hx => by rw [I.gout x hx, hout x hx]; rfl, I.pos, I.sok, I.wfs, I.rfs⟩
theorem marks_same {word w' : Str} (h : word ≠ w') {r : SeenR} (hr : r.word = word) (M : Marks seen w' wf) : Marks (seen ++ [r]) w' wf := fun num path o t ht => by
  rw [M num path o t ht]
  constructor
  · intro hp0_
    obtain ⟨x, hx, q⟩ := hp0_
    exact ⟨x, List.mem_append_left _ hx, q⟩
  · intro hp0_
    obtain ⟨x, hx, q⟩ := hp0_
    rcases List.mem_append.mp hx with hx | hx
    · exact ⟨x, hx, q⟩
    · rw [List.mem_singleton.mp hx, hr] at q
      exact absurd q.2.1 h
theorem marks_set {word : Str} {r : SeenR} (hr : r.word = word) (hk : 0 ≤ r.k) (M : Marks seen word wf) (hs : ∀ x ∈ seen, x.who = r.who → x.k ≤ r.k) {wf' : Int → List Int → Int → Int} (hw : ∀ n p o, wf' n p o = if n = r.num ∧ p = r.path ∧ o = r.who then r.k else wf n p o) :
    Marks (seen ++ [r]) word wf' := fun num path o t ht => by
  rw [hw]
  by_cases q : num = r.num ∧ path = r.path ∧ o = r.who
  · rw [if_pos q]
    obtain ⟨rfl, rfl, rfl⟩ := q
    constructor
    · intro h
      exact ⟨r, by simp, rfl, hr, rfl, rfl, h⟩
    · intro hp0_
      refine Mine.byv fun P_ kP_ => ?_
      obtain ⟨x, hx, h1, h2, h3, h4, h5⟩ := hp0_
      refine kP_ ?_
      clear kP_ P_
      rcases List.mem_append.mp hx with hx | hx
      · have := hs x hx h1; (first | exact ar180 h5 this | lia)
      · rw [List.mem_singleton.mp hx] at h5; exact h5
  · rw [if_neg q, M num path o t ht]
    constructor
    · intro hp0_
      obtain ⟨x, hx, h⟩ := hp0_
      exact ⟨x, List.mem_append_left _ hx, h⟩
    · intro hp0_
      obtain ⟨x, hx, h⟩ := hp0_
      rcases List.mem_append.mp hx with hx | hx
      · exact ⟨x, hx, h⟩
      · rw [List.mem_singleton.mp hx] at h
        exact absurd ⟨h.2.2.1.symm, h.2.2.2.1.symm, h.1.symm⟩ q
theorem Inv.look (I : Inv N B c gc wf rf kn gates seen) {g : Nat} (hg : g < N) {word : Str} {num : Int} {path : List Int} {wf' rf' : Int → List Int → Int → Int} (hword : word = readW ∨ word = writeW) (hrw : readW ≠ writeW)
    (hw : ∀ n p o, wf' n p o = if word = writeW ∧ n = num ∧ p = path ∧ o = g then c g g else wf n p o) (hr : ∀ n p o, rf' n p o = if word = readW ∧ n = num ∧ p = path ∧ o = g then c g g else rf n p o) :
    Inv N B c gc wf' rf' kn gates (seen ++ [⟨g, word, num, path, c g g⟩]) := by
  have hs : ∀ x ∈ seen, x.who = g → x.k ≤ c g g := fun x hx e => by
    refine Mine.byv fun P_ kP_ => ?_
    obtain ⟨n, h1, h2, h3, h4, h5⟩ := I.sok x hx
    refine kP_ ?_
    clear kP_ P_
    rw [e] at h5; exact h5
  refine ⟨I.len, I.nn, I.gnn, I.know, I.own, I.top, I.gtop, I.gate, I.bnd, I.out, I.gout, I.pos, fun r hr => ?_, ?_, ?_⟩
  · rcases List.mem_append.mp hr with hr | hr
    · exact I.sok r hr
    · rw [List.mem_singleton.mp hr]
      exact ⟨g, hg, rfl, hword, I.pos g hg, Int.le_refl _⟩
  · rcases hword with rfl | rfl
    · have : wf' = wf := by
        funext n p o
        rw [hw, if_neg fun q => hrw q.1]
      rw [this]
      exact marks_same hrw rfl I.wfs
    · exact marks_set rfl (I.nn g g hg) I.wfs hs fun n p o => by rw [hw]; simp
  · rcases hword with rfl | rfl
    · exact marks_set rfl (I.nn g g hg) I.rfs hs fun n p o => by rw [hr]; simp
    · have : rf' = rf := by
        funext n p o
        rw [hr, if_neg fun q => hrw q.1.symm]
      rw [this]
      exact marks_same (Ne.symm hrw) rfl I.rfs
theorem Inv.hits (I : Inv N B c gc wf rf kn gates seen) {g : Nat} {sp : List (Int × Int)} (e : kn[g]? = some sp) {word : Str} {num : Int} {path : List Int} (mt : List Int → List Int → Bool) (D : Int → Str → Dat) (d : Dat) :
    (∃ kk, mt kk path = true ∧ ∃ o, o ≠ (g : Int) ∧ ((wf num kk o > c g o ∧ d = D o writeW) ∨ (word = writeW ∧ rf num kk o > c g o ∧ d = D o readW))) ↔
      ∃ r ∈ seen, r.who ≠ g ∧ (word = writeW ∨ r.word = writeW) ∧ r.num = num ∧ mt r.path path = true ∧ (r.who, r.k) ∉ sp ∧ d = D r.who r.word := by
  have hg : g < N := by
    have := (List.getElem?_eq_some_iff.mp e).1
    rw [I.len] at this; exact this
  have K := (I.know g sp e).2
  constructor
  · intro hp0_
    refine Mine.byv fun P_ kP_ => ?_
    obtain ⟨kk, h1, o, h2, h3⟩ := hp0_
    refine kP_ ?_
    clear kP_ P_
    rcases h3 with ⟨h3, rfl⟩ | ⟨rfl, h3, rfl⟩
    · obtain ⟨r, hr, rfl, hw, rfl, rfl, hk⟩ := (I.wfs num kk o _ (I.nn g o hg)).mp h3
      exact ⟨r, hr, h2, .inr hw, rfl, h1, fun q => by have := (K _ _).mp q; (first | exact ar49 hk this | lia), by rw [hw]⟩
    · obtain ⟨r, hr, rfl, hw, rfl, rfl, hk⟩ := (I.rfs num kk o _ (I.nn g o hg)).mp h3
      exact ⟨r, hr, h2, .inl rfl, rfl, h1, fun q => by have := (K _ _).mp q; (first | exact ar49 hk this | lia), by rw [hw]⟩
  · intro hp0_
    refine Mine.byv fun P_ kP_ => ?_
    obtain ⟨r, hr, h1, h2, rfl, h4, h5, rfl⟩ := hp0_
    obtain ⟨n, a1, a2, a3, a4, a5⟩ := I.sok r hr
    refine kP_ ?_
    clear kP_ P_
    have hk : r.k > c g r.who := by
      rw [K] at h5; (first | exact ar170 h5 a4 | lia)
    refine ⟨r.path, h4, r.who, h1, ?_⟩
    rcases a3 with a3 | a3
    · rcases h2 with rfl | h2
      · exact .inr ⟨rfl, (I.rfs _ _ _ _ (I.nn g _ hg)).mpr ⟨r, hr, rfl, a3, rfl, rfl, hk⟩, by rw [a3]⟩
      · exact .inl ⟨(I.wfs _ _ _ _ (I.nn g _ hg)).mpr ⟨r, hr, rfl, h2, rfl, rfl, hk⟩, by rw [h2]⟩
    · exact .inl ⟨(I.wfs _ _ _ _ (I.nn g _ hg)).mpr ⟨r, hr, rfl, a3, rfl, rfl, hk⟩, by rw [a3]⟩
theorem Inv.born (I : Inv N B c gc wf rf kn gates seen) {f : Int → Int} (hf : ∀ x, f x = if x = (N : Int) then 1 else 0) (hB : 1 ≤ B) : Inv (N + 1) B (updc c N f) gc wf rf (kn ++ [[((N : Int), 1)]]) gates seen := by
  have get : ∀ (h : Nat) sp, (kn ++ [[((N : Int), (1 : Int))]])[h]? = some sp → (h = N ∧ sp = [((N : Int), 1)]) ∨ (h < N ∧ kn[h]? = some sp) := fun h sp e => by
    by_cases q : h < kn.length
    · rw [List.getElem?_append_left q] at e
      exact .inr ⟨by rw [← I.len]; exact q, e⟩
    · rw [List.getElem?_append_right (by (first | exact ar16 q | lia))] at e
      have hlt := (List.getElem?_eq_some_iff.mp e).1
      have : h = N := by
        rw [← I.len]
        simp at hlt; (first | exact ar328 q hlt | lia)
      refine .inl ⟨this, ?_⟩
      rw [this, I.len] at e
      simpa using e.symm
  have ne : ∀ {h : Nat}, h < N → (h : Int) ≠ N := fun q => by (first | exact ar80 q | lia)
  refine ⟨by simp [I.len], fun h x hh => ?_, I.gnn, fun h sp e => ?_, fun h sp e => ?_, fun a b ha hb => ?_, fun h hh => ?_, I.gate, fun h hh => ?_, fun h x hh hx => ?_, fun x hx => I.gout x (by (first | exact ar23 hx | lia)), fun h hh => ?_, fun r hr => ?_, I.wfs, I.rfs⟩
  · by_cases q : h < N
    · rw [updc_ne _ _ (ne q)]; exact I.nn h x q
    · obtain rfl : h = N := by (first | exact ar0 hh q | lia)
      rw [updc_at, hf]; split <;> lia
  · rcases get h sp e with ⟨rfl, rfl⟩ | ⟨q, e⟩
    · rw [updc_at]
      refine ⟨by simp, fun x y => ?_⟩
      rw [hf, List.mem_singleton, Prod.mk.injEq]
      split <;> lia
    · rw [updc_ne _ _ (ne q)]; exact I.know h sp e
  · rcases get h sp e with ⟨rfl, rfl⟩ | ⟨q, e⟩
    · rw [updc_at, hf, if_pos rfl]
      simp [ownS]
    · rw [updc_ne _ _ (ne q)]; exact I.own h sp e
  · by_cases q : b < N
    · rw [updc_ne _ _ (ne q)]
      by_cases r : a < N
      · rw [updc_ne _ _ (ne r)]; exact I.top a b r q
      · obtain rfl : a = N := by (first | exact ar0 ha r | lia)
        rw [updc_at, hf, if_pos rfl, I.out b _ q (by (first | exact ar55 | lia))]; (first | exact ar20 | lia)
    · obtain rfl : b = N := by (first | exact ar0 hb q | lia)
      rw [updc_at, hf]
      by_cases r : a < b
      · rw [updc_ne _ _ (ne r), if_neg (by (first | exact ar298 r | lia))]
        have := I.pos a r; (first | exact ar46 this | lia)
      · obtain rfl : a = b := by (first | exact ar0 ha r | lia)
        rw [updc_at, hf]; exact Int.le_refl _
  · by_cases q : h < N
    · rw [updc_ne _ _ (ne q)]; exact I.gtop h q
    · obtain rfl : h = N := by (first | exact ar0 hh q | lia)
      rw [updc_at, hf, if_pos rfl, I.gout _ (by (first | exact ar55 | lia))]; (first | exact ar20 | lia)
  · by_cases q : h < N
    · rw [updc_ne _ _ (ne q)]; exact I.bnd h q
    · obtain rfl : h = N := by (first | exact ar0 hh q | lia)
      rw [updc_at, hf, if_pos rfl]; exact hB
  · by_cases q : h < N
    · rw [updc_ne _ _ (ne q)]; exact I.out h x q (by (first | exact ar23 hx | lia))
    · obtain rfl : h = N := by (first | exact ar0 hh q | lia)
      rw [updc_at, hf, if_neg (by lia)]
  · by_cases q : h < N
    · rw [updc_ne _ _ (ne q)]; exact I.pos h q
    · obtain rfl : h = N := by (first | exact ar0 hh q | lia)
      rw [updc_at, hf, if_pos rfl]; exact Int.le_refl _
  · obtain ⟨n, a1, a2, a3, a4, a5⟩ := I.sok r hr
    exact ⟨n, by (first | exact ar293 a1 | lia), a2, a3, a4, by rw [updc_ne _ _ (by rw [a2]; exact ne a1)]; exact a5⟩
theorem Inv.start : Inv 1 1 (fun _ x => if x = 0 then 1 else 0) (fun _ => 0) (fun _ _ _ => 0) (fun _ _ _ => 0) [[(0, 1)]] [] [] := by
  have get : ∀ (h : Nat) sp, ([[((0 : Int), (1 : Int))]])[h]? = some sp → h = 0 ∧ sp = [(0, 1)] := fun h sp e => by
    cases h with
    | zero => exact ⟨rfl, by simpa using e.symm⟩
    | succ h => simp at e
  refine ⟨rfl, fun h x hh => ?_, fun x => Int.le_refl _, fun h sp e => ?_, fun h sp e => ?_, fun a b ha hb => Int.le_refl _, fun h hh => ?_, ⟨by simp, fun x y => by simp; lia⟩, fun h hh => ?_, fun h x hh hx => ?_, fun x hx => rfl, fun h hh => ?_, fun r hr => (by cases hr), fun _ _ _ t ht => ?_, fun _ _ _ t ht => ?_⟩
  · split <;> lia
  · obtain ⟨rfl, rfl⟩ := get h sp e
    refine ⟨by simp, fun x y => ?_⟩
    rw [List.mem_singleton, Prod.mk.injEq]
    show x = 0 ∧ y = 1 ↔ 1 ≤ y ∧ y ≤ (if x = 0 then 1 else 0)
    split <;> lia
  · obtain ⟨rfl, rfl⟩ := get h sp e
    simp [ownS]
  · obtain rfl : h = 0 := by (first | exact ar11 hh | lia)
    simp
  · obtain rfl : h = 0 := by (first | exact ar11 hh | lia)
    simp
  · rw [if_neg (by (first | exact ar157 hx | lia))]
  · obtain rfl : h = 0 := by (first | exact ar11 hh | lia)
    simp
  · simp; (first | exact ar21 ht | lia)
  · simp; (first | exact ar21 ht | lia)
end
theorem spanD_inj {p q : Int × Int} (h : spanD p = spanD q) : p = q := by
  refine Mine.byv fun P_ kP_ => ?_
  obtain ⟨a, b⟩ := p
  obtain ⟨c, d⟩ := q
  refine kP_ ?_
  clear kP_ P_
  simp only [spanD, Dat.tuple.injEq, List.cons.injEq, Dat.int.injEq, and_true] at h
  rw [h.1, h.2]
theorem spanD_mem {sp : List (Int × Int)} {p : Int × Int} : spanD p ∈ sp.map spanD ↔ p ∈ sp :=
  ⟨fun h => by obtain ⟨q, hq, e⟩ := List.mem_map.mp h; rw [← spanD_inj e]; exact hq, List.mem_map_of_mem⟩
theorem spanD_ok (p : Int × Int) (n : Nat) : kqdOk (n + 2) (spanD p) = true := by simp [spanD, kqdOk]
theorem spans_ok {sp : List (Int × Int)} : ∀ d ∈ sp.map spanD, kqdOk 8 d = true := fun d h => by
  obtain ⟨q, _, rfl⟩ := List.mem_map.mp h
  exact spanD_ok q 6
/-- the datum is a span not in sp -/
noncomputable def newS (sp : List (Int × Int)) : Dat → Bool
  | .tuple [.int a, .int b] => decide ((a, b) ∉ sp)
  | _ => true
theorem newS_span (sp : List (Int × Int)) (q : Int × Int) : newS sp (spanD q) = decide (q ∉ sp) := rfl
theorem more_filter (sp ms : List (Int × Int)) : (ms.map spanD).filter (newS sp) = (ms.filter fun p => decide (p ∉ sp)).map spanD := by
  rw [List.filter_map]; rfl
section
variable {p : Program} {loose : List Str} {mg mb : Str → Option Value} {w : World} {dp un : Nat} {fr : Option (List Env)} {gd : Option (List Code)} {h₀ v : Heap} {s : Shared} {Q : Value → Shared → Prop}
theorem law_learn (X : (hd.heap_1 w.params).In h₀) (T : TopRead p loose mg mb h₀) (H : Sub h₀ v) (V : Sub v s.heap) (hdp : dp + 3 < recursionLimit) (hun : un + 100 < cLine)
  {K : Addr} {kl : List Addr} {kn : List (List (Int × Int))} (DK : KnownAt w v K kl kn) (hoff : h₀.get? K = none) (hKl : K ∉ kl) {i : Nat} {ti : Tok} {l r : Addr} {sp ms : List (Int × Int)} (h1 : kl[i]? = some l) (h2 : kn[i]? = some sp) (hsp : sp.length ≤ 1000) (DM : ListAt v r (ms.map spanD)) (hms : ms.length ≤ 1000) (hkl : kl.length ≤ 10)
  (ret : ∀ D v' h' tk', Post s.heap v v' h' [K] → KnownAt w v' K (kl.set i D) (kn.set i (moreS sp ms)) → s.heap.get? D = none → Q .none {s with heap := h', toks := tk'}) :
  wpAny (model PySem.Challenge.rw_on0014_01.prog w) (Ar dp fr gd un) (call (.ref 262) [.ref K, .int (i : Int) ti, .ref r]) Q (fun _ _ => False) s := by
  have X0 := X
  have T0 := T
  revert X; k_fill; intro X
  refine wpAny_call ?_
  k_dflt (refine' intoC (f := 262) [K] [("known", .ref K), ("who", .int (i : Int) ti), ("more", .ref r)] X T H V ?o1 ?o2 ?k1 ?k2 ?k3 ?k4 ?k5 ?k6 ?k7 ?k8 ?k9 ?_; (case o1 => first | exact Mine.all1 hoff | simpa using hoff); (case o2 => first | exact Mine.all1 DK.alive | simpa using DK.alive); (case k1 => k_is); (case k2 => k_is); (case k3 => first | exact Nat.lt_of_le_of_lt (Nat.le_add_right _ _) hdp | lia); (case k4 => exact BindsTo.of_eq rfl); (case k5 => exact rfl); (case k6 => decide +kernel); (case k7 => rfl); (case k8 => rfl); (case k9 => rfl))
  intro g L h₁ tk1 fr' cells own A' e_ s1_ m0 Z F N Y hcn Xg Tg hsz
  k_cells Y
  simp only [List.cons_append, List.nil_append] at N
  refine Mine.byv fun P_ kP_ => ?_
  obtain ⟨vs, n, hl, hd⟩ := DK.list h1 h2
  obtain ⟨us, n2, hr, hdr⟩ := id DM
  refine kP_ ?_
  clear kP_ P_
  iterate 6 walk1
  rename Fr g L _ _ => F1
  rename News g L _ (_ :: _ :: own) => N1
  refine known_tail DK (Z.sub F1 N1 fun _ h => .tail _ (.tail _ h)) h1 ?_
  k_dflt (refine LCt.ListComp_T (F₀ := by k_asm) (by with_unfolding_all rfl) (by decide) (by rfl) (by decide) (by rfl) ?_)
  walk1
  (try clear F); (try clear N)
  rename Fr g L _ _ => F5
  rename News g L _ _ => N5
  refine comp_dat rfl Z F5 N5 (fun p hp => by repeat (first | exact hp | refine List.Mem.tail _ ?_)) hr hdr (by have := hdr.length; simp at this; (first | exact ar31 hms this | lia)) (newS sp) ?test ?item ?fin
  case test =>
    intro d hdm a I oI C oC D m₂ ys h' tk' E' hda hC hx F' N' off' ne'
    simp only [LCg.Off3] at off'
    have V' := Z.sub F' N' (fun p hp => by repeat (first | exact hp | refine List.Mem.tail _ ?_))
    obtain ⟨q, hq, rfl⟩ := List.mem_map.mp hdm
    have okd := spans_ok _ hdm
    (try dsimp only)
    iterate 5 walk1
    refine known_tail DK V' h1 ?_
    skip
    refine notIn_list (V' _ _ hl) (hd.up V') (hda.up V') spans_ok okd (Mine.room hun) fun b hb => ?_
    have e : b = newS sp (spanD q) := by
      rw [newS_span]
      rw [spanD_mem] at hb
      cases b
      · exact (decide_eq_false fun q => by have := hb.mpr q; cases this).symm
      · exact (decide_eq_true (hb.mp rfl)).symm
    subst e
    k_steps
  case item =>
    intro a I oI C oC D m₂ ys h' tk' E' hC hx F' N' off' ne'
    simp only [LCg.Off3] at off'
    (try dsimp only)
    k_steps
  intro D2 h2' tk2' ys F6 N6 hys hyl
  (try clear F1); (try clear N1); (try clear F5); (try clear N5)
  (try dsimp only)
  refine add_lists (vs := vs) (ws := ys) F6 N6 ⟨_, Z.sub F6 N6 (fun p hp => by repeat (first | exact hp | refine List.Mem.tail _ ?_)) _ _ hl, rfl, n, rfl⟩ ⟨_, (N6 _ (.head _)).1, rfl, _, rfl⟩ (fun h9 F9 N9 => ?_) (by have := hdr.length; have := hd.length; simp at *; rw [sizeLine_eq]; (first | exact ar444 hsp hms hyl (by assumption) this | lia))
  (try clear F6); (try clear N6)
  (try dsimp only)
  iterate 2 walk1
  rename Fr g L _ _ => F10
  rename News g L _ _ => N10
  refine Z.growK F10 N10 (fun p hp => by repeat (first | exact hp | refine List.Mem.tail _ ?_)) fun vs10  Z10  kv  kh  kn10 => ?_
  have DK10 := DK.up kv
  have e1 := kn10 _ (.head _)
  have hne := DK10.ne e1 rfl
  have hi : i < kl.length := (List.getElem?_eq_some_iff.mp h1).1
  refine known_set DK10 kh hKl hi (by (first | exact ar66 hkl | lia)) (sp := moreS sp ms) ⟨_, _, e1, by
    unfold moreS
    rw [List.map_append, ← more_filter]
    exact (hd.up kv).append (hys.up kv)⟩ hne fun v' h' P DK' => ?_
  refine Z10.backK F10 N10 P (by first | exact Mine.nin1 (Z.offg K (by first | exact nin_nil | exact all_nil | ((repeat (first | exact .head _ | refine .tail _ ?_)); done) | simp)) | exact Mine.all1 (Z.offg K (by first | exact nin_nil | exact all_nil | ((repeat (first | exact .head _ | refine .tail _ ?_)); done) | simp)) | simpa using Z.offg K (by first | exact nin_nil | exact all_nil | ((repeat (first | exact .head _ | refine .tail _ ?_)); done) | simp)) (by first | exact Mine.nin1 (DK10.alive) | exact Mine.all1 (DK10.alive) | simpa using DK10.alive) ?_
  intro own' mm_ Z'  F'  N'
  (try (refine Mine.wp_let ?_; intro sQ24_))
  have gD := (N10 _ (.head _)).2.2
  have nD := new_none Z F' gD (by first | exact Mine.nin1 (hne) | exact Mine.all1 (hne) | simpa using hne)
  (try clear F10); (try clear N10); (try clear F9); (try clear N9)
  (try dsimp only at F' N' ⊢)
  k_steps
  (try k_steps)
  show Q .none _
  (try k_steps)
  exact ret _ v' _ _ (Z'.post ‹_› ‹_›) DK' nD
end
theorem Ctx.dead {h₀ s0 v0 g v h : Heap} {fp : List Addr} {L : Addr} {own news : List (Addr × Obj)} {m : Str → Option Value} (Z : Ctx h₀ s0 v0 fp g L own v) (F : Fr g L h m) (N : News g L h news) (hs : ∀ p ∈ own, p ∈ news)
    (hal : ∀ a ∈ fp, ∃ o, v.get? a = some o) {a : Addr} (e : h.get? a = none) : s0.get? a = none := by
  cases q : s0.get? a with
  | none => rfl
  | some o =>
    by_cases hf : a ∈ fp
    · obtain ⟨o', h'⟩ := hal a hf
      have := Z.sub F N hs _ _ h'
      rw [e] at this; cases this
    · have := F.keep _ _ (Z.hk _ _ hf q)
      rw [e] at this; cases this
section
variable {p : Program} {loose : List Str} {mg mb : Str → Option Value} {w : World} {dp un : Nat} {fr : Option (List Env)} {gd : Option (List Code)} {h₀ v : Heap} {s : Shared} {Q : Value → Shared → Prop}
theorem read_call {word : Str} (ew : word = readW) (X : (hd.heap_1 w.params).In h₀) (T : TopRead p loose mg mb h₀) (H : Sub h₀ v) (V : Sub v s.heap) (hdp : dp + 9 < recursionLimit) (hun : un + 160 < cLine)
  {W d C Ln G P R : Addr} {t1 t2 t3 t4 t5 : Tok} (I : InstAt v W (instObj 227 d) 227 (some (watchD w t1 t2 t3 t4 t5 C Ln G P R))) {ps : List RwA} (hnd : (W :: d :: C :: P :: R :: allOf ps).Nodup) (hoff : ∀ x ∈ [C, R, P] ++ allOf ps, h₀.get? x = none)
  {gI num : Int} {path : List Int} {lv : Value} {tg : Tok} {c : List (Int × Int)} {n m : Nat} {cm : Int → Option (List (Int × Int))} {rs : List Dat}
  (hlv : DatH v lv (locD num path)) (D : CM w v C n cm) (hcm : cm gI = some c) (hc : KOk c) (DR : RacesAt v R rs) (DP : PlacesAt w v P ps) (ok : ∀ d ∈ rs, kqdOk 8 d = true)
  (hpl : path.length ≤ 10) (hm : m ≤ 20) (hbd : BD m m m ps) (hn : n + 2 * m ≤ 990) (hrs : rs.length + 2 * m * m ≤ 40000)
  (ret : ∀ ps' rs' v' h' tk', Post s.heap v v' h' ([C, R, P] ++ allOf ps) → CM w v' C (n + 2 * m + 1) cm → RacesAt v' R rs' → PlacesAt w v' P ps' → (∀ a ∈ allOf ps', a ∈ allOf ps ∨ s.heap.get? a = none) → (allOf ps').Nodup → BD (m + 1) (m + 1) (m + 1) ps' → rs'.length ≤ rs.length + 2 * m * m → (∀ d ∈ rs', kqdOk 8 d = true) → (rs.Nodup → rs'.Nodup) →
    (∀ d, d ∈ rs' ↔ d ∈ rs ∨ ∃ kk, Hit ps num gI path word c kk d) →
    (∀ n' path' o, Wf ps' n' path' o = (if word = writeW ∧ n' = num ∧ path' = path ∧ o = gI then cnt c gI else Wf ps n' path' o) ∧ Rf ps' n' path' o = (if word = readW ∧ n' = num ∧ path' = path ∧ o = gI then cnt c gI else Rf ps n' path' o)) → Q .none {s with heap := h', toks := tk'}) :
  wpAny (model PySem.Challenge.rw_on0014_01.prog w) (Ar dp fr gd un) (call (.ref 203) [.ref W, .int gI tg, lv]) Q (fun _ _ => False) s := by
  subst ew
  have hal : ∀ x ∈ [C, R, P] ++ allOf ps, ∃ o, v.get? x = some o := by
    intro x hx
    simp only [List.cons_append, List.nil_append, List.mem_cons] at hx
    rcases hx with q_ | q_ | hx
    · cases q_; exact D.alive
    · cases q_; exact DR.alive
    · exact DP.alive x (by first | exact Mine.nin1 (hx) | exact Mine.all1 (hx) | simpa using hx)
  have hnd0 := hnd
  obtain ⟨hWd, hWC, hWP, hWR, hWa, hdC, hdP, hdR, hda, hCP, hCR, hCa, hPR, hPa, hRa, hna⟩ := nd5 hnd
  have X0 := X
  have T0 := T
  revert X; k_fill; intro X
  refine wpAny_call ?_
  k_dflt (refine' into (f := 203) ([C, R, P] ++ allOf ps) [("self", .ref W), ("goroutine", .int gI tg), ("location", lv)] X T H V ?o1 ?o2 ?k1 ?k2 ?k3 ?k4 ?k5 ?k6 ?k7 ?k8 ?k9 ?_; (case o1 => exact hoff); (case o2 => exact hal); (case k1 => k_is); (case k2 => k_is); (case k3 => first | exact Nat.lt_of_le_of_lt (Nat.le_add_right _ _) hdp | lia); (case k4 => rfl); (case k5 => exact locs rfl); (case k6 => decide); (case k7 => rfl); (case k8 => rfl); (case k9 => rfl))
  intro g L h₁ fr' own A' e_ s1_ m0 Z F N Xg Tg
  have IG : InstAt g W (instObj 227 d) 227 (some (watchD w t1 t2 t3 t4 t5 C Ln G P R)) := InstAt.keeps' I (fun b o n e => Z.hk b o n (V b o e)) (by first | ((repeat' (first | exact nin_nil | exact all_nil | (refine nin_cons ?_ ?_) | (refine all_cons ?_ ?_) | assumption | exact Ne.symm (by assumption))); done) | simp [hWC, hWR, hWP, hWa]) (fun a e => Mine.dict_nin e (by first | ((repeat' (first | exact nin_nil | exact all_nil | (refine nin_cons ?_ ?_) | (refine all_cons ?_ ?_) | assumption | exact Ne.symm (by assumption))); done) | simp [hdC, hdR, hdP, hda]))
  iterate 14 walk1
  rename Fr g L _ _ => F1
  rename News g L _ own => N1
  refine look_call X0 T0 Z.H (Z.sub F1 N1 fun _ h => h) (Mine.room hdp) (Mine.room hun) I hnd0 hoff (.inl rfl) hlv D hcm hc DR DP ok hpl hm hbd hn hrs fun ps' rs' v1 h1 tk1 P1 D1 DR1 DP1 hall hna1 hbd1 hlen ok1 hnd1 hmem hsem => ?_
  refine Z.backK F1 N1 P1 Z.offg hal ?_
  intro own1 mm_ Z1  F2  N2
  (try (refine Mine.wp_let ?_; intro sQ12_))
  have hdd := fun a => Z.dead (a := a) F1 N1 (fun _ h => h) hal
  (try clear F1); (try clear N1); (try clear F); (try clear N)
  k_steps
  (try k_steps)
  show Q .none _
  (try k_steps)
  refine ret ps' rs' v1 _ _ (Z1.post F2 N2) D1 DR1 DP1 (fun a ha => (hall a ha).imp id fun e => ?_) hna1 hbd1 hlen ok1 hnd1 hmem hsem
  exact hdd a e
theorem write_call {word : Str} (ew : word = writeW) (X : (hd.heap_1 w.params).In h₀) (T : TopRead p loose mg mb h₀) (H : Sub h₀ v) (V : Sub v s.heap) (hdp : dp + 9 < recursionLimit) (hun : un + 160 < cLine)
  {W d C Ln G P R : Addr} {t1 t2 t3 t4 t5 : Tok} (I : InstAt v W (instObj 227 d) 227 (some (watchD w t1 t2 t3 t4 t5 C Ln G P R))) {ps : List RwA} (hnd : (W :: d :: C :: P :: R :: allOf ps).Nodup) (hoff : ∀ x ∈ [C, R, P] ++ allOf ps, h₀.get? x = none)
  {gI num : Int} {path : List Int} {lv : Value} {tg : Tok} {c : List (Int × Int)} {n m : Nat} {cm : Int → Option (List (Int × Int))} {rs : List Dat}
  (hlv : DatH v lv (locD num path)) (D : CM w v C n cm) (hcm : cm gI = some c) (hc : KOk c) (DR : RacesAt v R rs) (DP : PlacesAt w v P ps) (ok : ∀ d ∈ rs, kqdOk 8 d = true)
  (hpl : path.length ≤ 10) (hm : m ≤ 20) (hbd : BD m m m ps) (hn : n + 2 * m ≤ 990) (hrs : rs.length + 2 * m * m ≤ 40000)
  (ret : ∀ ps' rs' v' h' tk', Post s.heap v v' h' ([C, R, P] ++ allOf ps) → CM w v' C (n + 2 * m + 1) cm → RacesAt v' R rs' → PlacesAt w v' P ps' → (∀ a ∈ allOf ps', a ∈ allOf ps ∨ s.heap.get? a = none) → (allOf ps').Nodup → BD (m + 1) (m + 1) (m + 1) ps' → rs'.length ≤ rs.length + 2 * m * m → (∀ d ∈ rs', kqdOk 8 d = true) → (rs.Nodup → rs'.Nodup) →
    (∀ d, d ∈ rs' ↔ d ∈ rs ∨ ∃ kk, Hit ps num gI path word c kk d) →
    (∀ n' path' o, Wf ps' n' path' o = (if word = writeW ∧ n' = num ∧ path' = path ∧ o = gI then cnt c gI else Wf ps n' path' o) ∧ Rf ps' n' path' o = (if word = readW ∧ n' = num ∧ path' = path ∧ o = gI then cnt c gI else Rf ps n' path' o)) → Q .none {s with heap := h', toks := tk'}) :
  wpAny (model PySem.Challenge.rw_on0014_01.prog w) (Ar dp fr gd un) (call (.ref 210) [.ref W, .int gI tg, lv]) Q (fun _ _ => False) s := by
  subst ew
  have hal : ∀ x ∈ [C, R, P] ++ allOf ps, ∃ o, v.get? x = some o := by
    intro x hx
    simp only [List.cons_append, List.nil_append, List.mem_cons] at hx
    rcases hx with q_ | q_ | hx
    · cases q_; exact D.alive
    · cases q_; exact DR.alive
    · exact DP.alive x (by first | exact Mine.nin1 (hx) | exact Mine.all1 (hx) | simpa using hx)
  have hnd0 := hnd
  obtain ⟨hWd, hWC, hWP, hWR, hWa, hdC, hdP, hdR, hda, hCP, hCR, hCa, hPR, hPa, hRa, hna⟩ := nd5 hnd
  have X0 := X
  have T0 := T
  revert X; k_fill; intro X
  refine wpAny_call ?_
  k_dflt (refine' into (f := 210) ([C, R, P] ++ allOf ps) [("self", .ref W), ("goroutine", .int gI tg), ("location", lv)] X T H V ?o1 ?o2 ?k1 ?k2 ?k3 ?k4 ?k5 ?k6 ?k7 ?k8 ?k9 ?_; (case o1 => exact hoff); (case o2 => exact hal); (case k1 => k_is); (case k2 => k_is); (case k3 => first | exact Nat.lt_of_le_of_lt (Nat.le_add_right _ _) hdp | lia); (case k4 => rfl); (case k5 => exact locs rfl); (case k6 => decide); (case k7 => rfl); (case k8 => rfl); (case k9 => rfl))
  intro g L h₁ fr' own A' e_ s1_ m0 Z F N Xg Tg
  have IG : InstAt g W (instObj 227 d) 227 (some (watchD w t1 t2 t3 t4 t5 C Ln G P R)) := InstAt.keeps' I (fun b o n e => Z.hk b o n (V b o e)) (by first | ((repeat' (first | exact nin_nil | exact all_nil | (refine nin_cons ?_ ?_) | (refine all_cons ?_ ?_) | assumption | exact Ne.symm (by assumption))); done) | simp [hWC, hWR, hWP, hWa]) (fun a e => Mine.dict_nin e (by first | ((repeat' (first | exact nin_nil | exact all_nil | (refine nin_cons ?_ ?_) | (refine all_cons ?_ ?_) | assumption | exact Ne.symm (by assumption))); done) | simp [hdC, hdR, hdP, hda]))
  iterate 14 walk1
  rename Fr g L _ _ => F1
  rename News g L _ own => N1
  refine look_call X0 T0 Z.H (Z.sub F1 N1 fun _ h => h) (Mine.room hdp) (Mine.room hun) I hnd0 hoff (.inr rfl) hlv D hcm hc DR DP ok hpl hm hbd hn hrs fun ps' rs' v1 h1 tk1 P1 D1 DR1 DP1 hall hna1 hbd1 hlen ok1 hnd1 hmem hsem => ?_
  refine Z.backK F1 N1 P1 Z.offg hal ?_
  intro own1 mm_ Z1  F2  N2
  (try (refine Mine.wp_let ?_; intro sQ13_))
  have hdd := fun a => Z.dead (a := a) F1 N1 (fun _ h => h) hal
  (try clear F1); (try clear N1); (try clear F); (try clear N)
  k_steps
  (try k_steps)
  show Q .none _
  (try k_steps)
  refine ret ps' rs' v1 _ _ (Z1.post F2 N2) D1 DR1 DP1 (fun a ha => (hall a ha).imp id fun e => ?_) hna1 hbd1 hlen ok1 hnd1 hmem hsem
  exact hdd a e
end
section
theorem allLt_to {d : Addr} : ∀ {l : List (Addr × Obj)}, AllLt d l → ∀ p ∈ l, @LT.lt Nat _ p.1 d
  | [], _, p, hp => by cases hp
  | q :: l, h, p, hp => by
    rcases Mine.mem_sym hp with rfl | hp
    · exact h.1
    · exact allLt_to h.2 p hp
theorem Ctx.free {h₀ s0 v0 g v : Heap} {fp : List Addr} {L : Addr} {own : List (Addr × Obj)} (Z : Ctx h₀ s0 v0 fp g L own v) {a : Addr} (hg : g.get? a = none) (hl : AllLt a own) : v.get? a = none := by
  cases q : v.get? a with
  | none => rfl
  | some o =>
    rcases (Z.look a o q).2 with e | e
    · rw [hg] at e; cases e
    · exact absurd (allLt_to hl _ e) (Nat.lt_irrefl _)
theorem by_rest {Good G : Shared → Prop} {P : Prop} (h1 : (∀ s', Good s' → G s') → P) (h2 : ∀ s', Good s' → G s') : P := h1 h2
theorem DatsH.four {h : Heap} {vs : List Value} {d1 d2 d3 d4 : Dat} (x : DatsH h vs [d1, d2, d3, d4]) : ∃ a b c d, vs = [a, b, c, d] ∧ DatH h a d1 ∧ DatH h b d2 ∧ DatH h c d3 ∧ DatH h d d4 := by
  cases vs with
  | nil => have := x.length; simp at this
  | cons a vs =>
    refine Mine.byv fun P_ kP_ => ?_
    obtain ⟨d', r, e1, ha, x⟩ := x.uncons
    refine kP_ ?_
    clear kP_ P_
    cases e1
    cases vs with
    | nil => have := x.length; simp at this
    | cons b vs =>
      refine Mine.byv fun P_ kP_ => ?_
      obtain ⟨d', r, e1, hb, x⟩ := x.uncons
      refine kP_ ?_
      clear kP_ P_
      cases e1
      refine Mine.byv fun P_ kP_ => ?_
      obtain ⟨c, d, rfl, hc, hd⟩ := x.two
      refine kP_ ?_
      clear kP_ P_
      exact ⟨a, b, c, d, rfl, ha, hb, hc, hd⟩
theorem PlacesAt.noTup {w : World} {h : Heap} {P : Addr} {ps : List RwA} (x : PlacesAt w h P ps) : NoTup h (P :: allOf ps) := by
  obtain ⟨a, lo, b⟩ := x
  refine NoTup.one fun y hy => ?_
  rcases Mine.mem_sym hy with rfl | hy
  · exact dict_noTup a
  · obtain ⟨r, hr, hy⟩ := List.mem_flatMap.mp hy
    obtain ⟨c, _, hp⟩ := b r hr
    rcases Mine.mem_sym hy with rfl | hy
    · exact dictH_noTup c
    · obtain ⟨q, hq, hy⟩ := List.mem_flatMap.mp hy
      refine Mine.byv fun P_ kP_ => ?_
      obtain ⟨_, ⟨t1, t2, I⟩, ⟨c, _⟩, e, _⟩ := hp q hq
      refine kP_ ?_
      clear kP_ P_
      simp only [PlA.all, List.mem_cons, List.not_mem_nil, or_false] at hy
      have sg : ∀ {y : Addr} {o : Obj}, h.get? y = some o → o.cls ≠ .type "tuple" → NoTup h [y] := fun {y o} e hn z hz o' e' ht => by
        rw [List.mem_singleton.mp hz, e] at e'; cases e'
        exact hn ht.1
      rcases hy with rfl | rfl | rfl | rfl
      · exact sg I.at_ (by first | ((repeat' (first | exact nin_nil | exact all_nil | (refine nin_cons ?_ ?_) | (refine all_cons ?_ ?_) | assumption | exact Ne.symm (by assumption))); done) | simp [instObj])
      · exact sg I.dict (by first | ((repeat' (first | exact nin_nil | exact all_nil | (refine nin_cons ?_ ?_) | (refine all_cons ?_ ?_) | assumption | exact Ne.symm (by assumption))); done) | simp [placeD])
      · obtain ⟨kvs, c, _⟩ := c; exact dict_noTup c
      · obtain ⟨kvs, c, _⟩ := e; exact dict_noTup c
theorem NoTup.cons {h : Heap} {a : Addr} {l : List Addr} (x : NoTup h [a]) (y : NoTup h l) : NoTup h (a :: l) := fun b hb o e => by
  rcases List.mem_cons.mp hb with rfl | hb
  · exact x b (by first | exact nin_nil | exact all_nil | ((repeat (first | exact .head _ | refine .tail _ ?_)); done) | simp) o e
  · exact y b hb o e
noncomputable def seenD (r : SeenR) : Dat := .tuple [.int r.who, .str r.word, locD r.num r.path, spanD (r.who, r.k)]
/-- is the row of what was seen told as a race? -/
noncomputable def accT (i : Int) (word : Str) (num : Int) (path : List Int) (sp : List (Int × Int)) (r : SeenR) : Bool :=
  decide (r.who ≠ i) && ([word, r.word].any fun x => x == Str.ofString "write") && decide (r.num = num ∧ meetB r.path path = true) && decide ((r.who, r.k) ∉ sp)
/-- what a look leaves -/
structure Looked (w : World) (C R P : Addr) (n m : Nat) (cm : Int → Option (List (Int × Int))) (ps : List RwA) (rs : List Dat) (hs : Heap) (num gI : Int) (path : List Int) (word : Str) (c : List (Int × Int)) (ps' : List RwA) (rs' : List Dat) (v : Heap) : Prop where
  DC : CM w v C (n + 2 * m + 1) cm
  DR : RacesAt v R rs'
  DP : PlacesAt w v P ps'
  all : ∀ a ∈ allOf ps', a ∈ allOf ps ∨ hs.get? a = none
  nd : (allOf ps').Nodup
  bd : BD (m + 1) (m + 1) (m + 1) ps'
  len : rs'.length ≤ rs.length + 2 * m * m
  ok : ∀ d ∈ rs', kqdOk 8 d = true
  no : rs.Nodup → rs'.Nodup
  mem : ∀ d, d ∈ rs' ↔ d ∈ rs ∨ ∃ kk, Hit ps num gI path word c kk d
  wr : ∀ n' path' o, Wf ps' n' path' o = (if word = writeW ∧ n' = num ∧ path' = path ∧ o = gI then cnt c gI else Wf ps n' path' o) ∧ Rf ps' n' path' o = (if word = readW ∧ n' = num ∧ path' = path ∧ o = gI then cnt c gI else Rf ps n' path' o)
section
variable {w : World} {C R P : Addr} {n m : Nat} {cm : Int → Option (List (Int × Int))} {ps : List RwA} {rs : List Dat} {hs : Heap} {num gI : Int} {path : List Int} {word : Str} {c : List (Int × Int)} {ps' : List RwA} {rs' : List Dat} {v v' : Heap} {fp : List Addr}
theorem Looked.alive (x : Looked w C R P n m cm ps rs hs num gI path word c ps' rs' v) : ∀ a ∈ C :: R :: P :: allOf ps', ∃ o, v.get? a = some o := fun a ha => by
  rcases Mine.mem_sym ha with rfl | ha
  · exact x.DC.alive
  · rcases Mine.mem_sym ha with rfl | ha
    · exact x.DR.alive
    · exact x.DP.alive a ha
theorem Looked.keeps (x : Looked w C R P n m cm ps rs hs num gI path word c ps' rs' v) (k : Keeps fp v v') (hd : ∀ a ∈ C :: R :: P :: allOf ps', a ∉ fp) (nt : NoTup v fp) : Looked w C R P n m cm ps rs hs num gI path word c ps' rs' v' :=
  { x with
    DC := x.DC.keeps k (hd _ (by first | exact nin_nil | exact all_nil | ((repeat (first | exact .head _ | refine .tail _ ?_)); done) | simp)) nt
    DR := x.DR.keeps k (hd _ (by first | exact nin_nil | exact all_nil | ((repeat (first | exact .head _ | refine .tail _ ?_)); done) | simp)) nt
    DP := x.DP.keeps k (hd _ (by first | exact nin_nil | exact all_nil | ((repeat (first | exact .head _ | refine .tail _ ?_)); done) | simp)) (fun a ha => hd a (by first | ((repeat' (first | exact nin_nil | exact all_nil | (refine nin_cons ?_ ?_) | (refine all_cons ?_ ?_) | assumption | exact Ne.symm (by assumption))); done) | simp [ha])) nt }
end
/-- what stands after the look, ahead of the loop -/
inductive AccGoodS (h₀ g v : Heap) (m0 : Str → Option Value) (L : Addr) (c1 : Addr × Obj) (fp : List Addr) (s : Shared) (fp1 : List Addr) (Lk : List RwA → List Dat → Heap → Prop) (s' : Shared) : Prop
  | mk (ps' : List RwA) (rs' : List Dat) (v1 : Heap) (own1 : List (Addr × Obj)) (Df : Addr) (hh : Heap) (tk : Nat) (e : s' = { s with heap := hh, toks := tk }) (F : Fr g L hh (fun y => if y = Str.ofString "found" then some (.ref Df) else m0 y)) (N : News g L hh ((Df, PySem.W.listOf #[] 0) :: c1 :: own1)) (Z : Ctx h₀ s.heap v fp g L own1 v1) (K : Keeps fp1 v v1) (lk : Lk ps' rs' v1) (hD : v1.get? Df = none) (hs : s.heap.get? Df = none)
noncomputable def AccGood {h₀ g v h m0} {L : Addr} {c1 : Addr × Obj} {fp : List Addr} {own : List (Addr × Obj)} (s : Shared) (_ : Ctx h₀ s.heap v fp g L own v) (_ : Fr g L h m0) (_ : News g L h (c1 :: own)) (fp1 : List Addr) (Lk : List RwA → List Dat → Heap → Prop) : Shared → Prop :=
  fun s' => AccGoodS h₀ g v m0 L c1 fp s fp1 Lk s'
local macro_rules | `(tactic| walk_at "execs cons") => `(tactic| first | (k_here; k_gentoks) | ((with_reducible refine wpAny_execs_cons ?_); try dsimp only))
local macro_rules | `(tactic| walk_at "exec For Tuple Name cons nil") => `(tactic| k_dflt (refine' for_seqR rfl ?_))
local macro_rules | `(tactic| walk_at "exec For Tuple Name") => `(tactic| k_dflt (refine' for_seqR rfl ?_))
local macro_rules | `(tactic| walk_at "exec For") => `(tactic| k_dflt (refine' for_seqR rfl ?_))
theorem nd_acc {W d C P R K Sn : Addr} {al kl : List Addr} (hnd : (W :: d :: C :: P :: R :: K :: Sn :: (al ++ kl)).Nodup) : (K ∉ [C, R, P] ++ al) ∧ (Sn ∉ [C, R, P] ++ al) ∧ ∀ l ∈ kl, l ∉ [C, R, P] ++ al := by
  simp only [List.nodup_cons, List.mem_cons, List.mem_append, not_or] at hnd
  simp only [List.mem_append, List.mem_cons, List.not_mem_nil, or_false, not_or]
  refine Mine.byv fun P_ kP_ => ?_
  obtain ⟨_, _, ⟨hCP, hCR, hCK, hCS, hCa⟩, ⟨hPR, hPK, hPS, hPa⟩, ⟨hRK, hRS, hRa⟩, ⟨hKS, hKa⟩, hSa, hnn⟩ := hnd
  refine kP_ ?_
  clear kP_ P_
  exact ⟨⟨⟨Ne.symm hCK, Ne.symm hRK, Ne.symm hPK⟩, hKa.1⟩, ⟨⟨Ne.symm hCS, Ne.symm hRS, Ne.symm hPS⟩, hSa.1⟩, fun l hl => ⟨⟨fun q => hCa.2 (q ▸ hl), fun q => hRa.2 (q ▸ hl), fun q => hPa.2 (q ▸ hl)⟩, fun q => (List.nodup_append.mp hnn).2.2 _ q _ hl rfl⟩⟩
inductive AccJ (h₀ s0 v v2 g : Heap) (L : Addr) (fp : List Addr) (o' : Obj) (Df : Addr) (seen : List SeenR) (i : Nat) (word : Str) (num : Int) (path : List Int) (sp : List (Int × Int)) (m0 : Str → Option Value) (j : Nat) (mm : Str → Option Value) (own_ : List (Addr × Obj)) : Prop
  | mk (own_i : List (Addr × Obj)) (vi : Heap) (xs : List Value) (kx : Nat) (e : own_ = (L + 1, o') :: own_i) (Z : Ctx h₀ s0 v fp g L own_i vi) (ki : Keeps [Df] v2 vi) (hD : vi.get? Df = some (PySem.W.listOf xs.toArray kx)) (hx : DatsH vi xs (((seen.take j).filter (accT i word num path sp)).map fun r => rowD i num path word r.who r.word)) (hl : xs.length ≤ j) (hm : Same ["other", "earlier", "where", "span"] mm m0)
section
variable {p : Program} {loose : List Str} {mg mb : Str → Option Value} {w : World} {dp un : Nat} {fr : Option (List Env)} {gd : Option (List Code)} {h₀ v : Heap} {s : Shared} {Q : Value → Shared → Prop}
theorem law_access (X : (hd.heap_1 w.params).In h₀) (T : TopRead p loose mg mb h₀) (H : Sub h₀ v) (V : Sub v s.heap) (hdp : dp + 12 < recursionLimit) (hun : un + 200 < cLine)
  {W d C Ln G P R : Addr} {t1 t2 t3 t4 t5 : Tok} (I : InstAt v W (instObj 227 d) 227 (some (watchD w t1 t2 t3 t4 t5 C Ln G P R))) {K Sn : Addr} {kl : List Addr} {ps : List RwA} (hnd : (W :: d :: C :: P :: R :: K :: Sn :: (allOf ps ++ kl)).Nodup) (hoff : ∀ x ∈ [C, R, P] ++ allOf ps ++ [Sn], h₀.get? x = none)
  {i : Nat} {num : Int} {path : List Int} {word : Str} (hw : word = readW ∨ word = writeW) {lv : Value} {ti tw : Tok} {c : List (Int × Int)} {n m : Nat} {cm : Int → Option (List (Int × Int))} {rs : List Dat}
  (hlv : DatH v lv (locD num path)) (D : CM w v C n cm) (hcm : cm (i : Int) = some c) (hc : KOk c) (DR : RacesAt v R rs) (DP : PlacesAt w v P ps) (ok : ∀ d ∈ rs, kqdOk 8 d = true)
  (hpl : path.length ≤ 10) (hm : m ≤ 20) (hbd : BD m m m ps) (hn : n + 2 * m ≤ 990) (hrs : rs.length + 2 * m * m ≤ 40000)
  {kn : List (List (Int × Int))} (DK : KnownAt w v K kl kn) {l : Addr} {sp : List (Int × Int)} (h1 : kl[i]? = some l) (h2 : kn[i]? = some sp) (hsp : sp.length ≤ 1000) {k : Int} (hk : 1 ≤ k) (hown : sp.filter (fun q => decide (q.1 = (i : Int))) = ownS i k)
  {seen : List SeenR} (DSn : ListAt v Sn (seen.map seenD)) (hsn : seen.length ≤ 100) (hss : ∀ r ∈ seen, (r.word = readW ∨ r.word = writeW) ∧ r.path.length ≤ 10)
  (ret : ∀ r ps' rs' v' h' tk', Post s.heap v v' h' ([C, R, P] ++ allOf ps ++ [Sn]) → Looked w C R P n m cm ps rs s.heap num i path word c ps' rs' v' → ListAt v' Sn ((seen ++ [(⟨(i : Int), word, num, path, k⟩ : SeenR)]).map seenD) → ListAt v' r ((seen.filter (accT i word num path sp)).map fun r => rowD i num path word r.who r.word) → s.heap.get? r = none → Q (.ref r) {s with heap := h', toks := tk'}) :
  wpAny (model PySem.Challenge.rw_on0014_01.prog w) (Ar dp fr gd un) (call (.ref 274) [.ref W, .ref K, .ref Sn, .int (i : Int) ti, .str word tw, lv]) Q (fun _ _ => False) s := by
  have hal : ∀ x ∈ [C, R, P] ++ allOf ps ++ [Sn], ∃ o, v.get? x = some o := by
    intro x hx
    simp only [List.mem_append, List.mem_cons, List.not_mem_nil, or_false] at hx
    rcases hx with ((q_ | q_ | q_) | hx) | q_
    · cases q_; exact D.alive
    · cases q_; exact DR.alive
    · cases q_; exact DP.alive _ (by first | exact nin_nil | exact all_nil | ((repeat (first | exact .head _ | refine .tail _ ?_)); done) | simp)
    · exact DP.alive x (by first | ((repeat' (first | exact nin_nil | exact all_nil | (refine nin_cons ?_ ?_) | (refine all_cons ?_ ?_) | assumption | exact Ne.symm (by assumption))); done) | simp [hx])
    · cases q_; exact DSn.alive
  have hnt : NoTup v ([C, R, P] ++ allOf ps) := D.noTup.cons (DR.noTup.cons DP.noTup)
  have hnd0 := hnd
  have hndW : (W :: d :: C :: P :: R :: allOf ps).Nodup := by
    refine hnd.sublist ?_
    refine .cons_cons _ (.cons₂ _ (.cons₂ _ (.cons₂ _ (.cons₂ _ (.cons _ (.cons _ (List.sublist_append_left ..)))))))
  have X0 := X
  have T0 := T
  revert X; k_fill; intro X
  refine wpAny_call ?_
  k_dflt (refine' intoC0 (f := 274) ([C, R, P] ++ allOf ps ++ [Sn]) [("watch", .ref W), ("known", .ref K), ("seen", .ref Sn), ("who", .int (i : Int) ti), ("word", .str word tw), ("place", lv)] X T H V ?o1 ?o2 ?k1 ?k2 ?k3 ?k4 ?k5 ?k6 ?k7 ?k8 ?k9 ?_; (case o1 => exact hoff); (case o2 => exact hal); (case k1 => k_is); (case k2 => k_is); (case k3 => first | exact Nat.lt_of_le_of_lt (Nat.le_add_right _ _) hdp | lia); (case k4 => exact BindsTo.of_eq rfl); (case k5 => exact rfl); (case k6 => decide +kernel); (case k7 => rfl); (case k8 => rfl); (case k9 => rfl))
  intro g L h₁ tk1 fr' cells own Z F N Y hcn Xg Tg hsz
  k_cells Y
  simp only [List.cons_append, List.nil_append] at N
  rename_i o' d1'
  have hcoff : ∀ a, (∃ o, v.get? a = some o) → L + 1 ≠ a := fun a ⟨o, ho⟩ e => by
    have e1 := hcn _ (.head _)
    (try dsimp only at e1)
    rw [e, V _ _ ho] at e1; cases e1
  refine' by_rest (Good := AccGood s Z F N ([C, R, P] ++ allOf ps) (Looked w C R P n m cm ps rs s.heap num i path word c)) ?P1 ?P2
  case P1 =>
    intro key
    k_steps
    · rename_i hww
      have ew : word = writeW := by rcases hw with e | e; exact absurd (e ▸ hww) (by decide); exact e
      have F1 := ‹Fr g L _ _›
      have N1 := ‹News g L _ _›
      refine write_call ew X0 T0 Z.H (Z.sub F1 N1 fun p hp => by repeat (first | exact hp | refine List.Mem.tail _ ?_)) (Mine.room hdp) (Mine.room hun) I hndW (fun x hx => hoff x (by simp only [List.mem_append] at hx ⊢; exact .inl hx)) hlv D hcm hc DR DP ok hpl hm hbd hn hrs fun ps' rs' v1 h1 tk1 P1 D1 DR1 DP1 hall hna1 hbd1 hlen ok1 hnd1 hmem hsem => ?_
      have N1o : News g L _ own := News.pick N1 fun p hp => by repeat (first | exact hp | refine List.Mem.tail _ ?_)
      refine Z.backK F1 N1o P1 (fun a ha => Z.offg a (List.mem_append_left _ ha)) (fun a ha => hal a (List.mem_append_left _ ha)) ?_
      intro own1 mm_ Z1  F2  N2
      (try (refine Mine.wp_let ?_; intro sQ25_))
      have hdd := fun a => Z.dead (a := a) F1 N1o (fun _ h => h) hal
      have N3 := beside (cells := [_]) (News.pick N1 fun p hp => by rw [List.mem_singleton.mp hp]; exact .head _) P1.heap (fun p hp q => by rw [List.mem_singleton.mp hp] at q; exact hcoff _ (hal _ (List.mem_append_left _ q)) rfl) N2
      (try clear F1); (try clear N1); (try clear F); (try clear N); (try clear N2); (try clear N1o)
      simp only [List.cons_append, List.nil_append] at N3
      iterate 11 walk1
      have F4 := ‹Fr g L _ _›
      have N4 := ‹News g L _ _›
      refine key _ ⟨ps', rs', v1, own1, _, _, _, rfl, F4, N4, Z1, P1.keeps, ⟨D1, DR1, DP1, fun a ha => (hall a ha).imp id fun e => hdd a e, hna1, hbd1, hlen, ok1, hnd1, hmem, hsem⟩, Z1.free (N4 _ (.head _)).2.2 (‹_ ∧ AllLt _ own1›).2, Heap.get?_none_of_le ?_⟩
      exact Nat.le_trans hsz (Nat.le_of_lt (Nat.lt_trans (Nat.lt_succ_self _) (‹_ ∧ AllLt _ own1›).1))
    · rename_i hww
      have ew : word = readW := by rcases hw with e | e; exact e; exact absurd (e ▸ hww) (by decide)
      have F1 := ‹Fr g L _ _›
      have N1 := ‹News g L _ _›
      refine read_call ew X0 T0 Z.H (Z.sub F1 N1 fun p hp => by repeat (first | exact hp | refine List.Mem.tail _ ?_)) (Mine.room hdp) (Mine.room hun) I hndW (fun x hx => hoff x (by simp only [List.mem_append] at hx ⊢; exact .inl hx)) hlv D hcm hc DR DP ok hpl hm hbd hn hrs fun ps' rs' v1 h1 tk1 P1 D1 DR1 DP1 hall hna1 hbd1 hlen ok1 hnd1 hmem hsem => ?_
      have N1o : News g L _ own := News.pick N1 fun p hp => by repeat (first | exact hp | refine List.Mem.tail _ ?_)
      refine Z.backK F1 N1o P1 (fun a ha => Z.offg a (List.mem_append_left _ ha)) (fun a ha => hal a (List.mem_append_left _ ha)) ?_
      intro own1 mm_ Z1  F2  N2
      (try (refine Mine.wp_let ?_; intro sQ26_))
      have hdd := fun a => Z.dead (a := a) F1 N1o (fun _ h => h) hal
      have N3 := beside (cells := [_]) (News.pick N1 fun p hp => by rw [List.mem_singleton.mp hp]; exact .head _) P1.heap (fun p hp q => by rw [List.mem_singleton.mp hp] at q; exact hcoff _ (hal _ (List.mem_append_left _ q)) rfl) N2
      (try clear F1); (try clear N1); (try clear F); (try clear N); (try clear N2); (try clear N1o)
      simp only [List.cons_append, List.nil_append] at N3
      k_steps
      have F4 := ‹Fr g L _ _›
      have N4 := ‹News g L _ _›
      refine key _ ⟨ps', rs', v1, own1, _, _, _, rfl, F4, N4, Z1, P1.keeps, ⟨D1, DR1, DP1, fun a ha => (hall a ha).imp id fun e => hdd a e, hna1, hbd1, hlen, ok1, hnd1, hmem, hsem⟩, Z1.free (N4 _ (.head _)).2.2 (‹_ ∧ AllLt _ own1›).2, Heap.get?_none_of_le ?_⟩
      exact Nat.le_trans hsz (Nat.le_of_lt (Nat.lt_trans (Nat.lt_succ_self _) (‹_ ∧ AllLt _ own1›).1))
  case P2 =>
    intro s' hp1_
    refine Mine.byv fun P_ kP_ => ?_
    obtain ⟨ps', rs', v1, own1, Df, hh, tk2, rfl, F, N, Z1, K1, Lk, hDf, hsD⟩ := hp1_
    refine kP_ ?_
    clear kP_ P_
    have hvD : ∀ {a : Addr}, (∃ o, v1.get? a = some o) → a ∉ [Df] := fun ⟨o, e⟩ q => by
      rw [List.mem_singleton.mp q, hDf] at e; cases e
    have hK1 := (nd_acc hnd).1
    have hS1 := (nd_acc hnd).2.1
    have hl1 := (nd_acc hnd).2.2
    have DK1 := DK.keeps K1 hK1 hl1 hnt
    have DS1 := DSn.keeps K1 hS1 hnt
    have hlv1 := hlv.keeps K1 hnt
    have hSD : Sn ∉ [Df] := hvD DS1.alive
    refine Mine.byv fun P_ kP_ => ?_
    obtain ⟨vs, n2, hvs, hdv⟩ := id DS1
    refine kP_ ?_
    clear kP_ P_
    have hvl : vs.length = seen.length := by simpa using hdv.length
    obtain ⟨v2, Z2, k12, k2h, kn2⟩ := Z1.grow F (News.pick (l := _ :: own1) N fun p hp => by
      rcases Mine.mem_sym hp with rfl | hp
      · exact .head _
      · exact .tail _ (.tail _ hp)) (fun p hp => .tail _ hp)
    have eDf := kn2 _ (.head _)
    have ntD := noTup_list eDf
    have hgD : ∀ {o}, ¬ g.get? Df = some o := fun e => by rw [(N _ (.head _)).2.2] at e; cases e
    have hcD : L + 1 ≠ Df := fun e => by
      have e1 := (N _ (.head _)).1
      have e2 := (N _ (.tail _ (.head _))).1
      (try dsimp only at e1 e2)
      rw [e, e1] at e2
      have e3 := congrArg Obj.data (Option.some.inj e2)
      rw [d1'] at e3
      cases e3
    refine ⟨Sn, vs, _, n2, g, _, _, fun j mm own_ => AccJ h₀ s.heap v v2 g L ([C, R, P] ++ allOf ps ++ [Sn]) o' Df seen i word num path sp _ j mm own_, rfl, k2h _ _ (k12 _ _ hvs), .inr rfl, rfl, F, (fun p hp => N p (by
        rcases Mine.mem_sym hp with rfl | hp
        · exact .tail _ (.head _)
        · rcases Mine.mem_sym hp with rfl | hp
          · exact .head _
          · exact .tail _ (.tail _ hp))), ⟨_, v2, [], 0, rfl, Z2, fun _ _ _ e => e, eDf, DatsH.nil _, Nat.le_refl _, Same.refl _ _⟩, .inr ?stays, ?turn, ?done⟩
    case stays =>
      intro j mm own_ hp3_
      refine Mine.byv fun P_ kP_ => ?_
      obtain ⟨own_i, vi, xs, kx, rfl, Zi, ki, _⟩ := hp3_
      refine kP_ ?_
      clear kP_ P_
      refine .tail _ ((Zi.look _ _ (ki _ _ hSD (k12 _ _ hvs))).2.resolve_left fun e => ?_)
      rw [Zi.offg Sn (by first | exact nin_nil | exact all_nil | ((repeat (first | exact .head _ | refine .tail _ ?_)); done) | simp)] at e; cases e
    case turn =>
      intro j v_ mm own_ Ia oI h tk hv hp9_ F N hIo hcl
      refine Mine.byv fun P_ kP_ => ?_
      obtain ⟨own_i, vi, xs, kx, rfl, Zi, ki, hDi, hxi, hxl, hm⟩ := hp9_
      refine kP_ ?_
      clear kP_ P_
      refine Same.elimF hm F ?_
      intro u' mm_ F
      have nt := iter_noTup hcl
      have hjl : j < seen.length := by rw [← hvl]; exact (List.getElem?_eq_some_iff.mp hv).1
      obtain ⟨r, hr⟩ : ∃ r, seen[j]? = some r := ⟨_, List.getElem?_eq_getElem hjl⟩
      have hrm := List.mem_of_getElem? hr
      obtain ⟨hrw, hrp⟩ := hss r hrm
      have htake : (seen.take (j + 1)).filter (accT i word num path sp) = (seen.take j).filter (accT i word num path sp) ++ (if accT i word num path sp r then [r] else []) := by
        rw [List.take_add_one, hr, List.filter_append]
        congr 1
        cases h : accT i word num path sp r <;> simp [h]
      have up : Sub v1 vi := fun b o e => ki b o (hvD ⟨_, e⟩) (k12 b o e)
      have hd4 : DatH vi v_ (seenD r) := by
        obtain ⟨v', e', d'⟩ := hdv.get (k := j) (by first | exact Mine.nin1 (hjl) | exact Mine.all1 (hjl) | simpa using hjl)
        rw [hv] at e'; cases e'
        have : (seen.map seenD)[j]'(by first | exact Mine.nin1 (hjl) | exact Mine.all1 (hjl) | simpa using hjl) = seenD r := by
          rw [List.getElem_map, (List.getElem?_eq_some_iff.mp hr).2]
        rw [this] at d'
        exact d'.up up
      refine Mine.byv fun P_ kP_ => ?_
      obtain ⟨ta, us, nu, rfl, hta, hus⟩ := hd4.untuple
      obtain ⟨x1, x2, x3, x4, rfl, hx1, hx2, hx3, hx4⟩ := hus.four
      obtain ⟨tx1, rfl⟩ := hx1.unint
      obtain ⟨tx2, rfl⟩ := hx2.unstr
      refine kP_ ?_
      clear kP_ P_
      refine assign_tuple rfl F N (Zi.sub F N (fun p hp => by repeat (first | exact hp | refine List.Mem.tail _ ?_)) _ _ hta) rfl rfl ?_
      intro hp2 F2 N2
      (try clear F); (try clear N)
      k_steps
      · have hne := ‹r.who ≠ (i : Int)›
        have hin := ‹List.any _ _ = true›
        have F3 := ‹Fr g L _ _›
        have N3 := ‹News g L _ (_ :: (Ia, oI) :: (L + 1, o') :: own_i)›
        have V3 := Zi.sub F3 N3 (fun p hp => by repeat (first | exact hp | refine List.Mem.tail _ ?_))
        refine law_meets Xg Tg (Fr.toSub F3) (Mine.room hdp) (Mine.room hun) (hx3.up V3) ((hlv1.up up).up V3) (by (first | exact ar83 hpl hrp | lia)) fun b2 h4 tk4 k4 hb2 => ?_
        have F4 := Fr.use F3 (k4.keeps []) (by first | exact nin_nil | exact all_nil | ((repeat (first | exact .head _ | refine .tail _ ?_)); done) | simp) (by first | exact nin_nil | exact all_nil | ((repeat (first | exact .head _ | refine .tail _ ?_)); done) | simp)
        have N4 := News.use N3 (k4.keeps []) (by first | exact nin_nil | exact all_nil | ((repeat (first | exact .head _ | refine .tail _ ?_)); done) | simp)
        (try clear F2); (try clear N2); (try clear F3); (try clear N3)
        cases b2 with
        | true =>
          have hmt := hb2.mp rfl
          iterate 8 walk1
          have F5 := ‹Fr g L _ _›
          have N5 := ‹News g L _ (_ :: (Ia, oI) :: (L + 1, o') :: own_i)›
          have V5 := Zi.sub F5 N5 (fun p hp => by repeat (first | exact hp | refine List.Mem.tail _ ?_))
          refine known_tail (DK1.up up) V5 h1 ?_
          skip
          refine Mine.byv fun P_ kP_ => ?_
          obtain ⟨lvs, ln, hll, hld⟩ := (DK1.up up).list h1 h2
          refine kP_ ?_
          clear kP_ P_
          refine notIn_list (V5 _ _ hll) (hld.up V5) (hx4.up V5) spans_ok (spanD_ok _ 6) (Mine.room hun) fun b3 hb3 => ?_
          rw [spanD_mem] at hb3
          cases b3 with
          | true =>
            have hnk := hb3.mp rfl
            have hacc : accT i word num path sp r = true := by simp [accT, hne, hin, hmt.1, hmt.2, hnk]
            iterate 9 walk1
            have F6 := ‹Fr g L _ _›
            have N6 := ‹News g L _ (_ :: (Ia, oI) :: (L + 1, o') :: own_i)›
            refine list_method hDi (Zi.sub F6 N6 (fun p hp => by repeat (first | exact hp | refine List.Mem.tail _ ?_))) ?_
            iterate 24 walk1
            have F8 := ‹Fr g L _ _›
            have N8 := ‹News g L _ (_ :: _ :: _ :: _ :: (Ia, oI) :: (L + 1, o') :: own_i)›
            have N9 : News g L _ (_ :: _ :: _ :: own_i) := News.pick N8 fun p hp => by
              rcases Mine.mem_sym hp with rfl | hp; exact .head _
              rcases Mine.mem_sym hp with rfl | hp; exact .tail _ (.head _)
              rcases Mine.mem_sym hp with rfl | hp; exact .tail _ (.tail _ (.head _))
              exact .tail _ (.tail _ (.tail _ (.tail _ (.tail _ (.tail _ hp)))))
            refine Zi.growK F8 N9 (fun p hp => .tail _ (.tail _ (.tail _ hp))) fun vg  Zg  k1  k2  k3 => ?_
            have hrow : DatH vg _ (rowD i num path word r.who r.word) := DatH.tuple (n := 0) (vs := [_, _, _]) (k3 _ (.head _)) (DatsH.cons ((hlv1.up up).up k1) (DatsH.cons (DatH.tuple (n := 0) (vs := [_, _]) (k3 _ (.tail _ (.tail _ (.head _)))) (DatsH.cons (DatH.int _ r.who _) (DatsH.cons (DatH.str _ r.word _) (DatsH.nil _))))
              (DatsH.cons (DatH.tuple (n := 0) (vs := [_, _]) (k3 _ (.tail _ (.head _))) (DatsH.cons (DatH.int _ i _) (DatsH.cons (DatH.str _ word _) (DatsH.nil _)))) (DatsH.nil _))))
            have eR := k1 _ _ hDi
            refine list_append_post eR k2 (by simp; (first | exact ar371 hsn hxl hjl | lia)) fun v' h10 k10 P10 eR10 => ?_
            refine Zg.backK F8 N9 P10 (by simpa using (N8 (Df, _) (by simp only [List.mem_cons]; exact .inr (.inr (.inr (.inr (.inr (.inr ((Zi.look _ _ hDi).2.resolve_left hgD)))))))).2.2) (by first | exact Mine.nin1 (⟨_, eR⟩) | exact Mine.all1 (⟨_, eR⟩) | simpa using ⟨_, eR⟩) ?_
            intro own' mm_ Z'  F10  N10
            (try (refine Mine.wp_let ?_; intro sQ27_))
            have hIa := N8 (Ia, oI) (.tail _ (.tail _ (.tail _ (.tail _ (.head _)))))
            have hno9 : ∀ q ∈ _ :: _ :: _ :: own_i, q.1 ≠ Ia := fun q hq e => by
              have e1 := (N9 q hq).1
              rw [e, hIa.1] at e1
              have e2 : oI = q.2 := Option.some.inj e1
              rcases Mine.mem_sym hq with rfl | hq; exact nt (e2 ▸ ⟨rfl, _, _, rfl⟩)
              rcases Mine.mem_sym hq with rfl | hq; exact nt (e2 ▸ ⟨rfl, _, _, rfl⟩)
              rcases Mine.mem_sym hq with rfl | hq; exact nt (e2 ▸ ⟨rfl, _, _, rfl⟩)
              exact hIo q (.tail _ hq) e
            have hID : Ia ∉ [Df] := fun q => hIo _ (.tail _ ((Zi.look _ _ hDi).2.resolve_left hgD)) (List.mem_singleton.mp q).symm
            obtain ⟨N11, hno'⟩ := iter_back Zg Z' P10 hIa hno9 hID nt N10
            have N12 : News g L _ ((Ia, oI) :: (L + 1, o') :: own') := fun p hp => by
              rcases Mine.mem_sym hp with rfl | hp
              · exact N11 _ (.head _)
              · rcases Mine.mem_sym hp with rfl | hp
                · have := N8 (L + 1, o') (.tail _ (.tail _ (.tail _ (.tail _ (.tail _ (.head _))))))
                  exact ⟨P10.heap _ _ (by first | exact Mine.nin1 (hcD) | exact Mine.all1 (hcD) | simpa using hcD) this.1, this.2⟩
                · exact N10 _ hp
            have hno2 : ∀ q ∈ (L + 1, o') :: own', q.1 ≠ Ia := fun q hq => by
              rcases Mine.mem_sym hq with rfl | hq
              · exact hIo _ (.head _)
              · exact hno' q hq
            have ki' : Keeps [Df] v2 v' := fun b o n e => P10.keeps b o n (k1 _ _ (ki b o n e))
            have hx' := ((hxi.up k1).append (DatsH.cons hrow (DatsH.nil _))).keeps P10.keeps (noTup_list eR)
            (try clear F8); (try clear N8); (try clear N9); (try clear N10); (try clear N11)
            k_steps
            refine ⟨_, _, _, (L + 1, o') :: own', rfl, ‹_›, ‹_›, hno2, own', v', xs ++ [_], k10, rfl, Z', ki', by simpa using eR10, ?_, by simp; (first | exact ar1 hxl | lia), ((((Same.of.put _ _ rfl).put _ _ rfl).put _ _ rfl).put _ _ rfl)⟩
            rw [htake, hacc, if_pos rfl, List.map_append]
            exact hx'
          | false =>
            have hnk : (r.who, r.k) ∈ sp := Classical.byContradiction fun q => by have := hb3.mpr q; cases this
            k_steps
            refine ⟨_, _, _, (L + 1, o') :: own_i, rfl, ‹_›, News.pick ‹News g L _ _› fun p hp => .tail _ hp, hIo, own_i, vi, xs, kx, rfl, Zi, ki, hDi, by rw [htake, show accT i word num path sp r = false by simp [accT, hnk]]; simpa using hxi, Nat.le_succ_of_le hxl, ((((Same.of.put _ _ rfl).put _ _ rfl).put _ _ rfl).put _ _ rfl)⟩
        | false =>
          have hmt : ¬ (r.num = num ∧ meetB r.path path = true) := fun q => by have := hb2.mpr q; cases this
          k_steps
          refine ⟨_, _, _, (L + 1, o') :: own_i, rfl, ‹_›, News.pick ‹News g L _ _› fun p hp => .tail _ hp, hIo, own_i, vi, xs, kx, rfl, Zi, ki, hDi, by rw [htake, show accT i word num path sp r = false by simp [accT, hmt]]; simpa using hxi, Nat.le_succ_of_le hxl, ((((Same.of.put _ _ rfl).put _ _ rfl).put _ _ rfl).put _ _ rfl)⟩
      · rename_i hne hin
        refine ⟨_, _, _, (L + 1, o') :: own_i, rfl, ‹_›, News.pick ‹News g L _ _› fun p hp => .tail _ hp, hIo, own_i, vi, xs, kx, rfl, Zi, ki, hDi, by rw [htake, show accT i word num path sp r = false by simp [accT, hin]]; simpa using hxi, Nat.le_succ_of_le hxl, ((((Same.of.put _ _ rfl).put _ _ rfl).put _ _ rfl).put _ _ rfl)⟩
      · rename_i hne
        refine ⟨_, _, _, (L + 1, o') :: own_i, rfl, ‹_›, ‹_›, hIo, own_i, vi, xs, kx, rfl, Zi, ki, hDi, by rw [htake, show accT i word num path sp r = false by simp [accT, hne]]; simpa using hxi, Nat.le_succ_of_le hxl, ((((Same.of.put _ _ rfl).put _ _ rfl).put _ _ rfl).put _ _ rfl)⟩
    case done =>
      intro mm own_ h tk hp4_ F N
      refine Mine.byv fun P_ kP_ => ?_
      obtain ⟨own_i, vi, xs, kx, rfl, Zi, ki, hDi, hxi, hxl, hm⟩ := hp4_
      refine kP_ ?_
      clear kP_ P_
      refine Same.elimF hm F ?_
      intro u' mm_ F
      rw [hvl, List.take_length] at hxi
      have hSi := ki _ _ hSD (k12 _ _ hvs)
      have up : Sub v1 vi := fun b o e => ki b o (hvD ⟨_, e⟩) (k12 b o e)
      iterate 4 walk1
      have F3 := ‹Fr g L _ _›
      have N3 := ‹News g L _ _›
      refine list_method hSi (Zi.sub F3 N3 (fun p hp => by repeat (first | exact hp | refine List.Mem.tail _ ?_))) ?_
      iterate 14 walk1
      k_dflt (refine LCt.ListComp_T (F₀ := by k_asm) (by with_unfolding_all rfl) (by decide) (by rfl) (by decide) (by rfl) ?_)
      iterate 3 walk1
      have F4 := ‹Fr g L _ _›
      have N4 := ‹News g L _ _›
      refine known_tail (DK1.up up) (Zi.sub F4 N4 (fun p hp => by repeat (first | exact hp | refine List.Mem.tail _ ?_))) h1 ?_
      refine Mine.byv fun P_ kP_ => ?_
      obtain ⟨lvs, ln, hll, hld⟩ := (DK1.up up).list h1 h2
      refine kP_ ?_
      clear kP_ P_
      have hlvl : lvs.length = sp.length := by simpa using hld.length
      have F5 := ‹Fr g L _ _›
      have N5 := ‹News g L _ _›
      (try clear F3); (try clear N3)
      refine comp_dat rfl Zi F5 N5 (fun p hp => by repeat (first | exact hp | refine List.Mem.tail _ ?_)) hll hld (by (first | exact ar31 hsp hlvl | lia)) (fstIs (i : Int)) ?test ?item ?fin
      case test =>
        intro d hdm a I oI C oC D m₂ ys h' tk' E' hda hC hx F' N' off' ne'
        refine Mine.byv fun P_ kP_ => ?_
        obtain ⟨q, hq, rfl⟩ := List.mem_map.mp hdm
        obtain ⟨ta, us, nu, rfl, hta, hus⟩ := hda.untuple
        obtain ⟨x1, x2, rfl, hx1, hx2⟩ := hus.two
        obtain ⟨tx1, rfl⟩ := hx1.unint
        refine kP_ ?_
        clear kP_ P_
        simp only [LCg.Off3] at off'
        have hta' := Zi.sub F' N' (fun p hp => by repeat (first | exact hp | refine List.Mem.tail _ ?_)) _ _ hta
        (try dsimp only)
        iterate 4 walk1
        refine tup_tail (k := 0) hta' rfl (by first | exact nin_nil | exact all_nil | ((repeat (first | exact .head _ | refine .tail _ ?_)); done) | simp) ?_
        k_steps
      case item =>
        intro a I oI C oC D m₂ ys h' tk' E' hC hx F' N' off' ne'
        simp only [LCg.Off3] at off'
        (try dsimp only)
        k_steps
      intro D2 h2' tk2' ys F6 N6 hys hyl
      (try clear F4); (try clear N4); (try clear F5); (try clear N5); (try clear F); (try clear N)
      (try dsimp only)
      walk1
      rw [fst_filter, hown] at hys
      have hyk : ys.length = k.toNat := by
        have := hys.length
        simpa [ownS] using this
      have hyd : ∀ (j : Nat) x, ys.toArray[j]? = some x → DatH vi x (spanD ((i : Int), (j : Int) + 1)) := fun j x hx => by
        have hx' : ys[j]? = some x := by simpa using hx
        have hj : j < ys.length := (List.getElem?_eq_some_iff.mp hx').1
        obtain ⟨x', e', d'⟩ := hys.get (k := j) (by simp [ownS]; lia)
        rw [hx'] at e'; cases e'
        simpa [ownS] using d'
      have F7 := ‹Fr g L _ _›
      have N7 := ‹News g L _ ((D2, LCg.lst ys) :: _)›
      have V7 := Zi.sub F7 N7 (fun p hp => by repeat (first | exact hp | refine List.Mem.tail _ ?_))
      refine call_max_span (g := (i : Int)) rfl ⟨_, (N7 _ (.head _)).1, rfl, _, rfl⟩ (by simp; lia) (fun j x hx => (hyd j x hx).up V7) (Mine.room hun) fun x h8 tk8 hx8 k8 => ?_
      have hxd := hyd _ _ hx8
      have hke : ((ys.toArray.size - 1 : Nat) : Int) + 1 = k := by simp; lia
      rw [hke] at hxd
      have F8 := Fr.use F7 (k8.keeps []) (by first | exact nin_nil | exact all_nil | ((repeat (first | exact .head _ | refine .tail _ ?_)); done) | simp) (by first | exact nin_nil | exact all_nil | ((repeat (first | exact .head _ | refine .tail _ ?_)); done) | simp)
      have N8 := News.use N7 (k8.keeps []) (by first | exact nin_nil | exact all_nil | ((repeat (first | exact .head _ | refine .tail _ ?_)); done) | simp)
      (try clear F6); (try clear N6); (try clear F7); (try clear N7)
      iterate 3 walk1
      have F9 := ‹Fr g L _ _›
      have N9 := ‹News g L _ _›
      refine Zi.growK F9 N9 (fun p hp => by repeat (first | exact hp | refine List.Mem.tail _ ?_)) fun vg  Zg  k1  k2  k3 => ?_
      have hrow : DatH vg _ (seenD ⟨(i : Int), word, num, path, k⟩) := DatH.tuple (n := 0) (vs := [_, _, _, _]) (k3 _ (.head _)) (DatsH.cons (DatH.int _ i _) (DatsH.cons (DatH.str _ word _) (DatsH.cons ((hlv1.up up).up k1) (DatsH.cons (hxd.up k1) (DatsH.nil _)))))
      have eS := k1 _ _ hSi
      have hvi := (hdv.up up).up k1
      refine list_append_post eS k2 (by simp; (first | exact ar303 hsn hvl | lia)) fun v' h10 k10 P10 eS10 => ?_
      refine Zg.backK F9 N9 P10 (by first | exact Mine.nin1 (Zi.offg Sn (by first | exact nin_nil | exact all_nil | ((repeat (first | exact .head _ | refine .tail _ ?_)); done) | simp)) | exact Mine.all1 (Zi.offg Sn (by first | exact nin_nil | exact all_nil | ((repeat (first | exact .head _ | refine .tail _ ?_)); done) | simp)) | simpa using Zi.offg Sn (by first | exact nin_nil | exact all_nil | ((repeat (first | exact .head _ | refine .tail _ ?_)); done) | simp)) (by first | exact Mine.nin1 (⟨_, eS⟩) | exact Mine.all1 (⟨_, eS⟩) | simpa using ⟨_, eS⟩) ?_
      intro own' mm_ Z'  F10  N10
      (try (refine Mine.wp_let ?_; intro sQ28_))
      have ntS := noTup_list eS
      have hDS : Df ∉ [Sn] := fun q => hSD (by rw [List.mem_singleton.mp q]; exact .head _)
      have Lk' := (((Lk.keeps (k12.keeps []) (by first | exact nin_nil | exact all_nil | ((repeat (first | exact .head _ | refine .tail _ ?_)); done) | simp) (fun _ ha => by cases ha)).keeps ki (fun a ha => hvD (Lk.alive a ha)) ntD).keeps (k1.keeps []) (by first | exact nin_nil | exact all_nil | ((repeat (first | exact .head _ | refine .tail _ ?_)); done) | simp) (fun _ ha => by cases ha)).keeps P10.keeps (fun a ha q => ?_) ntS
      (try clear F8); (try clear N8); (try clear F9); (try clear N9)
      iterate 3 walk1
      show Q (.ref Df) _
      refine ret Df ps' rs' v' _ _ (Z'.post ‹_› ‹_›) Lk' ⟨vs ++ [_], k10, by simpa using eS10, ?_⟩ ⟨xs, kx, P10.keeps _ _ hDS (k1 _ _ hDi), (hxi.up k1).keeps P10.keeps ntS⟩ hsD
      · rw [List.map_append]
        exact (hvi.append (DatsH.cons hrow (DatsH.nil _))).keeps P10.keeps ntS
      · have qa : a = Sn := List.mem_singleton.mp q
        subst qa
        obtain ⟨o, ho⟩ := DSn.alive
        rcases Mine.mem_sym ha with rfl | ha
        · exact hS1 (by first | exact nin_nil | exact all_nil | ((repeat (first | exact .head _ | refine .tail _ ?_)); done) | simp)
        · rcases Mine.mem_sym ha with rfl | ha
          · exact hS1 (by first | exact nin_nil | exact all_nil | ((repeat (first | exact .head _ | refine .tail _ ?_)); done) | simp)
          · rcases Mine.mem_sym ha with rfl | ha
            · exact hS1 (by first | exact nin_nil | exact all_nil | ((repeat (first | exact .head _ | refine .tail _ ?_)); done) | simp)
            · rcases Lk.all _ ha with h | h
              · exact hS1 (by first | ((repeat' (first | exact nin_nil | exact all_nil | (refine nin_cons ?_ ?_) | (refine all_cons ?_ ?_) | assumption | exact Ne.symm (by assumption))); done) | simp [h])
              · rw [V _ _ ho] at h; cases h
end
end
/-- the source of a script: a list of two ints -/
noncomputable def SrcI (h : Heap) (S : Addr) : Prop := ∃ (a b : Int) (ta tb : Tok), h.get? S = some (PySem.W.listOf #[.int a ta, .int b tb] 0)
theorem SrcI.keeps {h h' : Heap} {S : Addr} {fp : List Addr} (x : SrcI h S) (k : Keeps fp h h') (hd : S ∉ fp) : SrcI h' S := let ⟨a, b, ta, tb, e⟩ := x; ⟨a, b, ta, tb, k _ _ hd e⟩
theorem SrcI.up {h h' : Heap} {S : Addr} (x : SrcI h S) (k : Sub h h') : SrcI h' S := x.keeps (k.keeps []) (by first | exact nin_nil | exact all_nil | ((repeat (first | exact .head _ | refine .tail _ ?_)); done) | simp)
theorem SrcI.alive {h : Heap} {S : Addr} (x : SrcI h S) : ∃ o, h.get? S = some o := let ⟨_, _, _, _, e⟩ := x; ⟨_, e⟩
theorem SrcI.noTup {h : Heap} {S : Addr} (x : SrcI h S) : NoTup h [S] := fun a ha o e => by
  have : a = S := by simpa using ha
  subst this
  refine Mine.byv fun P_ kP_ => ?_
  obtain ⟨_, _, _, _, e'⟩ := x
  refine kP_ ?_
  clear kP_ P_
  rw [e'] at e; cases e
  exact fun hh => absurd hh.1 (by first | ((repeat' (first | exact nin_nil | exact all_nil | (refine nin_cons ?_ ?_) | (refine all_cons ?_ ?_) | assumption | exact Ne.symm (by assumption))); done) | simp [PySem.W.listOf])
section
variable {p : Program} {loose : List Str} {mg mb : Str → Option Value} {w : World} {dp un : Nat} {fr : Option (List Env)} {gd : Option (List Code)} {h₀ v : Heap} {s : Shared} {Q : Value → Shared → Prop}
theorem take_call (X : (hd.heap_1 w.params).In h₀) (T : TopRead p loose mg mb h₀) (H : Sub h₀ v) (V : Sub v s.heap) (hdp : dp + 3 < recursionLimit) (hun : un + 30 < cLine)
  {S : Addr} (DS : SrcI v S) (hoff : h₀.get? S = none) {top : Int} {t : Tok} (ht : 0 < top) (hT : top ≤ 100000)
  (ret : ∀ r tr v' h' tk', Post s.heap v v' h' [S] → SrcI v' S → 0 ≤ r → r < top → Q (.int r tr) {s with heap := h', toks := tk'}) :
  wpAny (model PySem.Challenge.rw_on0014_01.prog w) (Ar dp fr gd un) (call (.ref 245) [.ref S, .int top t]) Q (fun _ _ => False) s := by
  refine Mine.byv fun P_ kP_ => ?_
  obtain ⟨a, b, ta, tb, eS⟩ := DS
  refine kP_ ?_
  clear kP_ P_
  have X0 := X
  have T0 := T
  revert X; k_fill; intro X
  refine wpAny_call ?_
  k_dflt (refine' enter (f := 245) [(S, PySem.W.listOf #[.int a ta, .int b tb] 0)] [("source", .ref S), ("top", .int top t)] X T (H.trans V) ?oo ?k1 ?k2 ?k3 ?k4 ?k5 ?k6 ?k7 ?k8 ?k9 ?_; (case oo => exact fun q hq => by (rcases List.mem_singleton.mp hq with rfl; exact ⟨V _ _ eS, hoff⟩)); (case k1 => k_is); (case k2 => k_is); (case k3 => first | exact Nat.lt_of_le_of_lt (Nat.le_add_right _ _) hdp | lia); (case k4 => rfl); (case k5 => exact locs rfl); (case k6 => decide); (case k7 => rfl); (case k8 => rfl); (case k9 => rfl))
  intro g L h₁ fr' A' e_ s1_ m0 Hg Hs Hk F N Xg Tg
  have ht0 : top ≠ 0 := by (first | exact ar148 ht | lia)
  k_steps
  · show Q (.int _ _) _
    rename Fr g L _ _ => F9
    rename News g L _ _ => N9
    obtain ⟨v', P, e'⟩ := Post.one (d := S) V ⟨_, eS⟩ (leave Hk F9) (N9 _ (.head _)).1
    (try k_steps)
    exact ret _ _ v' _ _ P ⟨_, _, _, _, e'⟩ (Int.fmod_nonneg_of_pos _ ht) (Int.fmod_lt_of_pos _ ht)
  · have hb2 : ∀ z : Int, 0 ≤ z.fmod 2147483647 ∧ z.fmod 2147483647 < 2147483647 := fun z => ⟨Int.fmod_nonneg_of_pos _ (by decide), Int.fmod_lt_of_pos _ (by decide)⟩
    have hb3 := hb2 ([a, b].getD (Int.toNat 1) 0 * 39373 + 7)
    refine PyProof.Rows.mul_int ?_ (PySem.IntMulOk.of_left (PySem.intBits_le_64 (by show _ ≤ ([a, b].getD (Int.toNat 1) 0 * 39373 + 7).fmod 2147483647; lia) (by show ([a, b].getD (Int.toNat 1) 0 * 39373 + 7).fmod 2147483647 < _; lia)))
    k_steps
    (try k_steps)
    show Q (.int _ _) _
    rename Fr g L _ _ => F9
    rename News g L _ _ => N9
    obtain ⟨v', P, e'⟩ := Post.one (d := S) V ⟨_, eS⟩ (leave Hk F9) (N9 _ (.head _)).1
    (try k_steps)
    exact ret _ _ v' _ _ P ⟨_, _, _, _, e'⟩ (Int.fmod_nonneg_of_pos _ ht) (Int.fmod_lt_of_pos _ ht)
end
/-- where the law's things stand -/
structure Ad where
  W : Addr
  d : Addr
  C : Addr
  Ln : Addr
  G : Addr
  P : Addr
  R : Addr
  K : Addr
  Sn : Addr
  Gt : Addr
  S : Addr
/-- what turns -/
structure Bs where
  lp : Option LA
  ps : List RwA
  kl : List Addr
  cm : Int → Option (List (Int × Int))
  gm : Int → Option (List (Int × Int))
  rs : List Dat
  kn : List (List (Int × Int))
  gates : List (Int × Int)
  seen : List SeenR
noncomputable def gsOf (A : Ad) (B : Bs) : Nat → List Addr
  | 0 => [A.W]
  | 1 => [A.d]
  | 2 => [A.C]
  | 3 => [A.Ln]
  | 4 => [A.G]
  | 5 => [A.P]
  | 6 => [A.R]
  | 7 => [A.K]
  | 8 => [A.Sn]
  | 9 => [A.Gt]
  | 10 => [A.S]
  | 11 => allOf B.ps
  | 12 => lineAll B.lp
  | 13 => B.kl
  | _ => []
/-- groups of addresses, all apart -/
noncomputable def Nd (gs : Nat → List Addr) : Prop := (∀ i, (gs i).Nodup) ∧ ∀ i j, i ≠ j → ∀ a ∈ gs i, a ∉ gs j
theorem Nd.set {gs gs' : Nat → List Addr} {H : Heap} (x : Nd gs) (i : Nat) (h : ∀ j, j ≠ i → gs' j = gs j) (hn : (gs' i).Nodup) (hnew : ∀ a ∈ gs' i, a ∈ gs i ∨ H.get? a = none) (al : ∀ j, ∀ a ∈ gs j, ∃ o, H.get? a = some o) : Nd gs' := by
  have key : ∀ j, j ≠ i → ∀ a ∈ gs' i, a ∉ gs' j := fun j hj a ha q => by
    rw [h j hj] at q
    rcases hnew a ha with e | e
    · exact x.2 i j (Ne.symm hj) a e q
    · obtain ⟨o, ho⟩ := al j a q
      rw [e] at ho; cases ho
  refine ⟨fun j => ?_, fun j k hjk a ha q => ?_⟩
  · by_cases q : j = i
    · cases q; exact hn
    · rw [h j q]; exact x.1 j
  · by_cases q1 : j = i
    · cases q1
      exact key k (Ne.symm hjk) a ha q
    · by_cases q2 : k = i
      · cases q2
        exact key j q1 a q ha
      · rw [h j q1] at ha
        rw [h k q2] at q
        exact x.2 j k hjk a ha q
noncomputable def Sel (gs : Nat → List Addr) (sel : List Nat) : List Addr := sel.flatMap gs
theorem Nd.sel {gs : Nat → List Addr} (x : Nd gs) : ∀ {sel : List Nat}, sel.Nodup → (Sel gs sel).Nodup
  | [], _ => List.nodup_nil
  | i :: sel, h => by
    have h' := List.nodup_cons.mp h
    show (gs i ++ Sel gs sel).Nodup
    rw [List.nodup_append]
    refine ⟨x.1 i, Nd.sel x h'.2, fun a ha b hb e => ?_⟩
    obtain ⟨j, hj, hb⟩ := List.mem_flatMap.mp hb
    subst e
    exact x.2 i j (fun q => h'.1 (q ▸ hj)) a ha hb
theorem Nd.away {gs : Nat → List Addr} (x : Nd gs) {fp : List Addr} {sel : List Nat} (h : ∀ a ∈ fp, a ∈ Sel gs sel) : ∀ i, i ∉ sel → ∀ a ∈ gs i, a ∉ fp := fun i hi a ha q => by
  obtain ⟨j, hj, hb⟩ := List.mem_flatMap.mp (h a q)
  exact x.2 i j (fun q => hi (q ▸ hj)) a ha hb
/-- a move from v to v' that touches but the groups sel -/
structure Mv (A : Ad) (B : Bs) (sel : List Nat) (fp : List Addr) (v v' : Heap) : Prop where
  k : Keeps fp v v'
  nt : NoTup v fp
  aw : ∀ i, i ∉ sel → ∀ a ∈ gsOf A B i, a ∉ fp
structure Facts (w : World) (v : Heap) (A : Ad) (B : Bs) (n m : Nat) : Prop where
  I : ∃ t1 t2 t3 t4 t5, InstAt v A.W (instObj 227 A.d) 227 (some (watchD w t1 t2 t3 t4 t5 A.C A.Ln A.G A.P A.R))
  DC : CM w v A.C n B.cm
  DL : LS w v A.Ln B.lp m
  DG : CM w v A.G m B.gm
  DP : PlacesAt w v A.P B.ps
  DR : RacesAt v A.R B.rs
  DK : KnownAt w v A.K B.kl B.kn
  DSn : ListAt v A.Sn (B.seen.map seenD)
  DGt : ListAt v A.Gt (B.gates.map spanD)
  DS : SrcI v A.S
theorem LS.keeps {w : World} {h h' : Heap} {Ln : Addr} {lp : Option LA} {m : Nat} {fp : List Addr} (x : LS w h Ln lp m) (k : Keeps fp h h') (hL : Ln ∉ fp) (hd : ∀ a ∈ lineAll lp, a ∉ fp) : LS w h' Ln lp m := by
  refine ⟨x.1, ?_⟩
  cases lp with
  | none => exact x.2.at fun o e => k _ _ hL e
  | some la =>
    simp only [lineAll, List.mem_cons, List.not_mem_nil, or_false, forall_eq_or_imp, forall_eq] at hd
    exact ⟨x.2.1.at fun o e => k _ _ hL e, x.2.2.keeps k hd.1 hd.2.1 hd.2.2.1 hd.2.2.2⟩
theorem LS.mono {w : World} {h : Heap} {Ln : Addr} {lp : Option LA} {m m' : Nat} (x : LS w h Ln lp m) (hm : m ≤ m') : LS w h Ln lp m' := by
  refine ⟨x.1, ?_⟩
  cases lp with
  | none => exact x.2
  | some la =>
    refine Mine.byv fun P_ kP_ => ?_
    obtain ⟨a, b, ⟨vs, k, c, d⟩, ⟨us, k', e, f⟩⟩ := x.2
    refine kP_ ?_
    clear kP_ P_
    exact ⟨a, b, ⟨vs, k, c, Nat.le_trans d hm⟩, ⟨us, k', e, Nat.le_trans f hm⟩⟩
theorem LS.lineNo {w : World} {h : Heap} {Ln : Addr} {lp : Option LA} {m : Nat} (x : LS w h Ln lp m) : NoTup h (lineAll lp) ∧ ∀ a ∈ lineAll lp, ∃ o, h.get? a = some o := by
  cases lp with
  | none => exact ⟨fun a ha => (by cases ha), fun a ha => (by cases ha)⟩
  | some la =>
    refine Mine.byv fun P_ kP_ => ?_
    obtain ⟨_, ⟨⟨t1, t2, t3, t4, room, e, I⟩, ⟨vs, k, c, _⟩, ⟨us, k', e', _⟩⟩⟩ := x.2
    refine kP_ ?_
    clear kP_ P_
    have sg : ∀ {y : Addr} {o : Obj}, h.get? y = some o → o.cls ≠ .type "tuple" → NoTup h [y] := fun {y o} e hn z hz o' e' ht => by
      rw [List.mem_singleton.mp hz, e] at e'; cases e'
      exact hn ht.1
    refine ⟨.cons (sg I.at_ (by first | exact nin_nil | exact all_nil | ((repeat (first | exact .head _ | refine .tail _ ?_)); done) | simp)) (.cons (sg I.dict (by first | exact nin_nil | exact all_nil | ((repeat (first | exact .head _ | refine .tail _ ?_)); done) | simp)) (.cons (noTup_list c) (noTup_list e'))), fun a ha => ?_⟩
    simp only [lineAll, List.mem_cons, List.not_mem_nil, or_false] at ha
    rcases ha with rfl | rfl | rfl | rfl
    · exact ⟨_, I.at_⟩
    · exact ⟨_, I.dict⟩
    · exact ⟨_, c⟩
    · exact ⟨_, e'⟩
section
variable {w : World} {v v' : Heap} {A : Ad} {B : Bs} {n m : Nat} {sel : List Nat} {fp : List Addr}
theorem Facts.kI (x : Facts w v A B n m) (M : Mv A B sel fp v v') (h0 : 0 ∉ sel) (h1 : 1 ∉ sel) : ∃ t1 t2 t3 t4 t5, InstAt v' A.W (instObj 227 A.d) 227 (some (watchD w t1 t2 t3 t4 t5 A.C A.Ln A.G A.P A.R)) := by
  refine Mine.byv fun P_ kP_ => ?_
  obtain ⟨t1, t2, t3, t4, t5, I⟩ := x.I
  refine kP_ ?_
  clear kP_ P_
  exact ⟨t1, t2, t3, t4, t5, InstAt.keeps' I M.k (M.aw 0 h0 _ (.head _)) (fun a e => Mine.dict_nin e (by exact M.aw 1 h1 _ (.head _)))⟩
theorem Facts.kDC (x : Facts w v A B n m) (M : Mv A B sel fp v v') (h : 2 ∉ sel) : CM w v' A.C n B.cm := x.DC.keeps M.k (M.aw 2 h _ (.head _)) M.nt
theorem Facts.kDL (x : Facts w v A B n m) (M : Mv A B sel fp v v') (h : 3 ∉ sel) (h' : 12 ∉ sel) : LS w v' A.Ln B.lp m := x.DL.keeps M.k (M.aw 3 h _ (.head _)) (M.aw 12 h')
theorem Facts.kDG (x : Facts w v A B n m) (M : Mv A B sel fp v v') (h : 4 ∉ sel) : CM w v' A.G m B.gm := x.DG.keeps M.k (M.aw 4 h _ (.head _)) M.nt
theorem Facts.kDP (x : Facts w v A B n m) (M : Mv A B sel fp v v') (h : 5 ∉ sel) (h' : 11 ∉ sel) : PlacesAt w v' A.P B.ps := x.DP.keeps M.k (M.aw 5 h _ (.head _)) (M.aw 11 h') M.nt
theorem Facts.kDR (x : Facts w v A B n m) (M : Mv A B sel fp v v') (h : 6 ∉ sel) : RacesAt v' A.R B.rs := x.DR.keeps M.k (M.aw 6 h _ (.head _)) M.nt
theorem Facts.kDK (x : Facts w v A B n m) (M : Mv A B sel fp v v') (h : 7 ∉ sel) (h' : 13 ∉ sel) : KnownAt w v' A.K B.kl B.kn := x.DK.keeps M.k (M.aw 7 h _ (.head _)) (M.aw 13 h') M.nt
theorem Facts.kDSn (x : Facts w v A B n m) (M : Mv A B sel fp v v') (h : 8 ∉ sel) : ListAt v' A.Sn (B.seen.map seenD) := x.DSn.keeps M.k (M.aw 8 h _ (.head _)) M.nt
theorem Facts.kDGt (x : Facts w v A B n m) (M : Mv A B sel fp v v') (h : 9 ∉ sel) : ListAt v' A.Gt (B.gates.map spanD) := x.DGt.keeps M.k (M.aw 9 h _ (.head _)) M.nt
theorem Facts.kDS (x : Facts w v A B n m) (M : Mv A B sel fp v v') (h : 10 ∉ sel) : SrcI v' A.S := x.DS.keeps M.k (M.aw 10 h _ (.head _))
theorem Facts.up (x : Facts w v A B n m) (k : Sub v v') : Facts w v' A B n m := by
  have M : Mv A B [] [] v v' := ⟨k.keeps _, fun a ha => (by cases ha), fun _ _ _ _ q => (by cases q)⟩
  exact ⟨x.kI M (by decide) (by decide), x.kDC M (by decide), x.kDL M (by decide) (by decide), x.kDG M (by decide), x.kDP M (by decide) (by decide), x.kDR M (by decide), x.kDK M (by decide) (by decide), x.kDSn M (by decide), x.kDGt M (by decide), x.kDS M (by decide)⟩
theorem Facts.mono {n' m' : Nat} (x : Facts w v A B n m) (hn : n ≤ n') (hm : m ≤ m') : Facts w v A B n' m' :=
  { x with DC := x.DC.mono hn, DL := x.DL.mono hm, DG := x.DG.mono hm }
theorem Facts.noTup (x : Facts w v A B n m) : ∀ i, NoTup v (gsOf A B i) := by
  refine Mine.byv fun P_ kP_ => ?_
  obtain ⟨t1, t2, t3, t4, t5, I⟩ := x.I
  refine kP_ ?_
  clear kP_ P_
  have sg : ∀ {y : Addr} {o : Obj}, v.get? y = some o → o.cls ≠ .type "tuple" → NoTup v [y] := fun {y o} e hn z hz o' e' ht => by
    rw [List.mem_singleton.mp hz, e] at e'; cases e'
    exact hn ht.1
  intro i
  unfold gsOf
  split
  · exact sg I.at_ (by first | exact nin_nil | exact all_nil | ((repeat (first | exact .head _ | refine .tail _ ?_)); done) | simp)
  · exact sg I.dict (by first | exact nin_nil | exact all_nil | ((repeat (first | exact .head _ | refine .tail _ ?_)); done) | simp)
  · exact x.DC.noTup
  · exact x.DL.noTup
  · exact x.DG.noTup
  · exact NoTup.one fun a ha => fun b hb o e => x.DP.noTup b (by rw [List.mem_singleton.mp hb]; exact List.mem_cons.mpr (.inl (List.mem_singleton.mp ha))) o e
  · exact x.DR.noTup
  · exact x.DK.noTup
  · exact x.DSn.noTup
  · exact x.DGt.noTup
  · exact x.DS.noTup
  · exact fun b hb o e => x.DP.noTup b (.tail _ hb) o e
  · exact x.DL.lineNo.1
  · refine NoTup.one fun l hl => ?_
    obtain ⟨j, hj, rfl⟩ := List.mem_iff_getElem.mp hl
    have hj2 : j < B.kn.length := x.DK.len ▸ hj
    exact (x.DK.list (List.getElem?_eq_getElem hj) (List.getElem?_eq_getElem hj2)).noTup
  · exact fun a ha => (by cases ha)
theorem Facts.alive (x : Facts w v A B n m) : ∀ i, ∀ a ∈ gsOf A B i, ∃ o, v.get? a = some o := by
  refine Mine.byv fun P_ kP_ => ?_
  obtain ⟨t1, t2, t3, t4, t5, I⟩ := x.I
  refine kP_ ?_
  clear kP_ P_
  have sg : ∀ {y : Addr}, (∃ o, v.get? y = some o) → ∀ a ∈ [y], ∃ o, v.get? a = some o := fun {y} h a ha => by rw [List.mem_singleton.mp ha]; exact h
  intro i
  unfold gsOf
  split
  · exact sg ⟨_, I.at_⟩
  · exact sg ⟨_, I.dict⟩
  · exact sg x.DC.alive
  · exact sg x.DL.alive
  · exact sg x.DG.alive
  · exact sg (x.DP.alive _ (.head _))
  · exact sg x.DR.alive
  · exact sg x.DK.alive
  · exact sg x.DSn.alive
  · exact sg x.DGt.alive
  · exact sg x.DS.alive
  · exact fun a ha => x.DP.alive a (.tail _ ha)
  · exact x.DL.lineNo.2
  · exact fun a ha => x.DK.mem ha
  · exact fun a ha => (by cases ha)
/-- how a move is made of what a call leaves -/
theorem Facts.mv (x : Facts w v A B n m) (nd : Nd (gsOf A B)) (sel : List Nat) (hs : ∀ a ∈ fp, a ∈ Sel (gsOf A B) sel) (k : Keeps fp v v') : Mv A B sel fp v v' :=
  ⟨k, fun a ha o e => by
    obtain ⟨j, _, hb⟩ := List.mem_flatMap.mp (hs a ha)
    exact x.noTup j a hb o e, nd.away hs⟩
end
/-- where things stand, apart and new -/
structure Geo (h₀ : Heap) (A : Ad) (B : Bs) : Prop where
  nd : Nd (gsOf A B)
  off : ∀ i, ∀ a ∈ gsOf A B i, h₀.get? a = none
theorem Geo.same {h₀ : Heap} {A : Ad} {B B' : Bs} (x : Geo h₀ A B) (h1 : B'.ps = B.ps) (h2 : B'.lp = B.lp) (h3 : B'.kl = B.kl) : Geo h₀ A B' := by
  have e : gsOf A B' = gsOf A B := by
    funext i
    unfold gsOf
    split <;> simp [h1, h2, h3]
  exact ⟨by rw [e]; exact x.nd, by rw [e]; exact x.off⟩
theorem Geo.turn {h₀ H : Heap} {A : Ad} {B B' : Bs} (x : Geo h₀ A B) (i : Nat) (h : ∀ j, j ≠ i → gsOf A B' j = gsOf A B j) (hn : (gsOf A B' i).Nodup) (hnew : ∀ a ∈ gsOf A B' i, a ∈ gsOf A B i ∨ H.get? a = none) (al : ∀ j, ∀ a ∈ gsOf A B j, ∃ o, H.get? a = some o) (hH : Sub h₀ H) : Geo h₀ A B' := by
  refine ⟨x.nd.set (H := H) i h hn hnew al, fun j a ha => ?_⟩
  by_cases q : j = i
  · cases q
    rcases hnew a ha with e | e
    · exact x.off _ a e
    · cases q : h₀.get? a with
      | none => rfl
      | some o => rw [hH _ _ q] at e; cases e
  · rw [h j q] at ha
    exact x.off j a ha
noncomputable def cc (cm : Int → Option (List (Int × Int))) : Int → Int → Int := fun g x => cnt (cOf cm g) x
noncomputable def gg (gm : Int → Option (List (Int × Int))) : Int → Int := fun x => cnt (gOf gm 5) x
theorem cOf_set (cm : Int → Option (List (Int × Int))) (g a : Int) (c : List (Int × Int)) : cOf (upd cm g c) a = if a = g then c else cOf cm a := by
  unfold cOf upd
  by_cases q : a = g
  · rw [if_pos q, if_pos q]; rfl
  · rw [if_neg q, if_neg q]
theorem cc_upd (cm : Int → Option (List (Int × Int))) (g : Int) (c : List (Int × Int)) : cc (upd cm g c) = updc (cc cm) g (cnt c) := by
  funext a
  unfold cc updc
  rw [cOf_set]
  split <;> rfl
theorem gg_upd (gm : Int → Option (List (Int × Int))) (c : List (Int × Int)) : gg (upd gm 5 c) = cnt c := by
  funext x
  unfold gg gOf upd
  rw [if_pos rfl]; rfl
theorem gOf_upd (gm : Int → Option (List (Int × Int))) (c : List (Int × Int)) : gOf (upd gm 5 c) 5 = c := by
  unfold gOf upd
  rw [if_pos rfl]; rfl
/-- a row of the races told -/
noncomputable def IsRow (d : Dat) : Prop := ∃ g num path word o er, (word = readW ∨ word = writeW) ∧ (er = readW ∨ er = writeW) ∧ path.length ≤ 10 ∧ d = rowD g num path word o er
theorem IsRow.ok {d : Dat} (h : IsRow d) : kqdOk 8 d = true := by
  refine Mine.byv fun P_ kP_ => ?_
  obtain ⟨g, num, path, word, o, er, h1, h2, _, rfl⟩ := h
  refine kP_ ?_
  clear kP_ P_
  exact rowD_ok h1 h2
structure Num (B : Bs) (t : Nat) : Prop where
  kl1 : 2 ≤ B.kl.length
  kl4 : B.kl.length ≤ 4
  kll : B.kl.length = B.kn.length
  bd : BD t t t B.ps
  rl : B.rs.length ≤ 800 * t
  rw : ∀ d ∈ B.rs, IsRow d
  no : B.rs.Nodup
  sl : B.seen.length ≤ t
  sp : ∀ r ∈ B.seen, r.path.length ≤ 10
  ck : ∀ g : Nat, g < B.kl.length → ∃ c, B.cm g = some c ∧ KOk c
  gk : KOk (gOf B.gm 5)
  inv : Inv B.kl.length (4 + 2 * (t : Int)) (cc B.cm) (gg B.gm) (Wf B.ps) (Rf B.ps) B.kn B.gates B.seen
theorem Inv.mono {N : Nat} {b b' : Int} {c : Int → Int → Int} {gc : Int → Int} {wf rf : Int → List Int → Int → Int} {kn : List (List (Int × Int))} {gates : List (Int × Int)} {seen : List SeenR} (I : Inv N b c gc wf rf kn gates seen) (h : b ≤ b') : Inv N b' c gc wf rf kn gates seen :=
  { I with bnd := fun g hg => Int.le_trans (I.bnd g hg) h }
theorem Inv.congr {N : Nat} {b : Int} {c c' : Int → Int → Int} {gc : Int → Int} {wf rf : Int → List Int → Int → Int} {kn : List (List (Int × Int))} {gates : List (Int × Int)} {seen : List SeenR} (I : Inv N b c gc wf rf kn gates seen) (h : c = c') : Inv N b c' gc wf rf kn gates seen := h ▸ I
theorem BD.mono {a a' : Nat} {ps : List RwA} (x : BD a a a ps) (h : a ≤ a') : BD a' a' a' ps :=
  ⟨Nat.le_trans x.1 h, fun r hr => ⟨Nat.le_trans (x.2 r hr).1 h, fun q hq => ⟨((x.2 r hr).2 q hq).1, Nat.le_trans ((x.2 r hr).2 q hq).2.1 h, Nat.le_trans ((x.2 r hr).2 q hq).2.2 h⟩⟩⟩
theorem Num.cOk {B : Bs} {t : Nat} (x : Num B t) {g : Nat} (hg : g < B.kl.length) : KOk (cOf B.cm g) := by
  obtain ⟨c, e, k⟩ := x.ck g hg
  unfold cOf
  rw [e]; exact k
theorem Num.cAt {B : Bs} {t : Nat} (x : Num B t) {g : Nat} (hg : g < B.kl.length) : B.cm g = some (cOf B.cm g) := by
  obtain ⟨c, e, k⟩ := x.ck g hg
  unfold cOf
  rw [e]; rfl
theorem ownS_len (g m : Int) : (ownS g m).length = m.toNat := by simp [ownS]
theorem Num.many {B : Bs} {t : Nat} (x : Num B t) {g : Nat} {sp : List (Int × Int)} (e : B.kn[g]? = some sp) : (((sp.filter fun q => decide (q.1 = (g : Int))).length : Nat) : Int) = cc B.cm g g := by
  rw [x.inv.own g sp e, ownS_len]
  have hg : g < B.kl.length := by rw [← x.inv.len]; exact (List.getElem?_eq_some_iff.mp e).1
  have := x.inv.nn g g hg
  lia
theorem Num.spLen {B : Bs} {t : Nat} (x : Num B t) (ht : t ≤ 18) {g : Nat} {sp : List (Int × Int)} (e : B.kn[g]? = some sp) : sp.length ≤ 160 := by
  have hg : g < B.kl.length := by rw [← x.inv.len]; exact (List.getElem?_eq_some_iff.mp e).1
  have := (x.inv.know g sp e).len (B := 4 + 2 * t) (fun y => by have := x.inv.cap g hg y; (first | exact ar185 this | lia)) (fun y hy => by rw [x.inv.out g y hg (by have := x.kl4; (first | exact ar53 hy this | lia))]; exact Int.le_refl _)
  (first | exact ar86 ht this | lia)
theorem Num.gLen {B : Bs} {t : Nat} (x : Num B t) (ht : t ≤ 18) : B.gates.length ≤ 160 := by
  have := x.inv.gate.len (B := 4 + 2 * t) (fun y => ?_) (fun y hy => by rw [x.inv.gout y (by have := x.kl4; (first | exact ar53 hy this | lia))]; exact Int.le_refl _)
  · (first | exact ar86 ht this | lia)
  · by_cases q : y < 0 ∨ ((B.kl.length : Nat) : Int) ≤ y
    · rw [x.inv.gout y q]; (first | exact ar189 | lia)
    · obtain ⟨n, rfl⟩ := Int.eq_ofNat_of_zero_le (a := y) (by (first | exact ar54 q | lia))
      have h1 := x.inv.gtop n (by (first | exact ar15 q | lia))
      have h2 := x.inv.bnd n (by (first | exact ar15 q | lia))
      (first | exact ar181 h1 h2 | lia)
section
variable {B : Bs} {t : Nat}
theorem Num.leave (x : Num B t) {g : Nat} {sp : List (Int × Int)} (e : B.kn[g]? = some sp) {c gc : List (Int × Int)} (hc : TickOf c (cOf B.cm g) g) (hgc : JoinOf gc (gOf B.gm 5) (cOf B.cm g)) {kl' : List Addr} (hl : kl'.length = B.kl.length) :
    Num { B with cm := upd B.cm g c, gm := upd B.gm 5 gc, kl := kl', kn := B.kn.set g (sp ++ [((g : Int), (((sp.filter fun q => decide (q.1 = (g : Int))).length : Nat) : Int) + 1)]), gates := moreS B.gates sp } (t + 1) := by
  have hg : g < B.kl.length := by rw [← x.inv.len]; exact (List.getElem?_eq_some_iff.mp e).1
  have h1 := (x.inv.gated (x.inv.know g sp e) (fun y => x.inv.nn g y hg) (fun h hh => x.inv.top h g hh hg) (x.inv.out g · hg ·)).tell e
  refine ⟨by simpa [hl] using x.kl1, by simpa [hl] using x.kl4, by simp [hl, x.kll], x.bd.mono (Nat.le_succ _), by have := x.rl; show B.rs.length ≤ _; (first | exact ar33 this | lia), x.rw, x.no, Nat.le_succ_of_le x.sl, x.sp, fun h hh => ?_, by rw [gOf_upd]; exact hgc.1, ?_⟩
  · by_cases q : h = g
    · cases q
      exact ⟨c, upd_at _ _ _, hc.1⟩
    · obtain ⟨c', e', k'⟩ := x.ck h (by simpa [hl] using hh)
      exact ⟨c', by show upd B.cm g c h = _; rw [upd, if_neg (fun r => q (Int.ofNat_inj.mp r))]; exact e', k'⟩
  · show Inv kl'.length _ (cc (upd B.cm g c)) (gg (upd B.gm 5 gc)) _ _ _ _ _
    rw [hl, cc_upd, gg_upd, x.many e]
    have e1 : cnt c = fun y => if y = (g : Int) then cc B.cm g g + 1 else cc B.cm g y := funext hc.2
    have e2 : cnt gc = fun y => max (gg B.gm y) (cc B.cm g y) := funext hgc.2
    rw [e1, e2]
    exact h1.mono (by push_cast; lia)
theorem Num.enter (x : Num B t) {g : Nat} {sp : List (Int × Int)} (e : B.kn[g]? = some sp) {c : List (Int × Int)} (hc : JoinOf c (cOf B.cm g) (gOf B.gm 5)) {kl' : List Addr} (hl : kl'.length = B.kl.length) :
    Num { B with cm := upd B.cm g c, kl := kl', kn := B.kn.set g (moreS sp B.gates) } (t + 1) := by
  have hg : g < B.kl.length := by rw [← x.inv.len]; exact (List.getElem?_eq_some_iff.mp e).1
  have h1 := x.inv.learn e x.inv.gate x.inv.gtop x.inv.gout
  refine ⟨by simpa [hl] using x.kl1, by simpa [hl] using x.kl4, by simp [hl, x.kll], x.bd.mono (Nat.le_succ _), by have := x.rl; show B.rs.length ≤ _; (first | exact ar33 this | lia), x.rw, x.no, Nat.le_succ_of_le x.sl, x.sp, fun h hh => ?_, x.gk, ?_⟩
  · by_cases q : h = g
    · cases q
      exact ⟨c, upd_at _ _ _, hc.1⟩
    · obtain ⟨c', e', k'⟩ := x.ck h (by simpa [hl] using hh)
      exact ⟨c', by show upd B.cm g c h = _; rw [upd, if_neg (fun r => q (Int.ofNat_inj.mp r))]; exact e', k'⟩
  · show Inv kl'.length _ (cc (upd B.cm g c)) (gg B.gm) _ _ _ _ _
    rw [hl, cc_upd]
    have e1 : cnt c = fun y => max (cc B.cm g y) (gg B.gm y) := funext hc.2
    rw [e1]
    exact h1.mono (by push_cast; (first | exact ar61 | lia))
theorem Num.hand (x : Num B t) {g h : Nat} (hgh : g ≠ h) {sp sq : List (Int × Int)} (e : B.kn[g]? = some sp) (e' : B.kn[h]? = some sq) {c3 c4 : List (Int × Int)}
    (h3 : KOk c3 ∧ ∀ y, cnt c3 y = max (if y = (g : Int) then cnt (cOf B.cm g) g + 1 else cnt (cOf B.cm g) y) (cnt (cOf B.cm h) y)) (h4 : KOk c4 ∧ ∀ y, cnt c4 y = max (if y = (h : Int) then cnt (cOf B.cm h) h + 1 else cnt (cOf B.cm h) y) (cnt (cOf B.cm g) y))
    {kl' : List Addr} (hl : kl'.length = B.kl.length) {lp' : Option LA} :
    Num { B with lp := lp', cm := upd (upd B.cm g c3) h c4, kl := kl', kn := (((B.kn.set g (sp ++ [((g : Int), (((sp.filter fun q => decide (q.1 = (g : Int))).length : Nat) : Int) + 1)])).set h (sq ++ [((h : Int), (((sq.filter fun q => decide (q.1 = (h : Int))).length : Nat) : Int) + 1)])).set g (moreS (sp ++ [((g : Int), (((sp.filter fun q => decide (q.1 = (g : Int))).length : Nat) : Int) + 1)]) sq)).set h (moreS (sq ++ [((h : Int), (((sq.filter fun q => decide (q.1 = (h : Int))).length : Nat) : Int) + 1)]) sp) } (t + 1) := by
  have hg : g < B.kl.length := by rw [← x.inv.len]; exact (List.getElem?_eq_some_iff.mp e).1
  have hh : h < B.kl.length := by rw [← x.inv.len]; exact (List.getElem?_eq_some_iff.mp e').1
  have hgi : (g : Int) ≠ h := fun r => hgh (Int.ofNat_inj.mp r)
  have hgk : g < B.kn.length := (List.getElem?_eq_some_iff.mp e).1
  have hhk : h < B.kn.length := (List.getElem?_eq_some_iff.mp e').1
  rw [x.many e, x.many e']
  have I1 := x.inv.tell e
  have I2 := I1.tell (g := h) (sp := sq) (by rw [List.getElem?_set_ne hgh]; exact e')
  have I3 := I2.learn (g := g) (sp := sp ++ [((g : Int), cc B.cm g g + 1)]) (more := sq) (f := cc B.cm h) (by rw [List.getElem?_set_ne (Ne.symm hgh), List.getElem?_set_self hgk]) (x.inv.know h sq e')
    (fun k hk => by
      have h1 := x.inv.top k h hk hh
      have h2 := x.inv.top k g hk hg
      simp only [updc]
      split
      · rename_i q; rw [q] at h1 ⊢; simp only [if_true, if_neg (Ne.symm hgi)]; (first | exact ar9 | lia)
      · split
        · rename_i q; rw [q] at h1 ⊢; simp only [if_true]; (first | exact ar50 h1 | lia)
        · exact h1) (fun y hy => x.inv.out h y hh hy)
  have I4 := I3.learn (g := h) (sp := sq ++ [((h : Int), updc (cc B.cm) g (fun y => if y = (g : Int) then cc B.cm g g + 1 else cc B.cm g y) h h + 1)]) (more := sp) (f := cc B.cm g) (by rw [List.getElem?_set_ne hgh, List.getElem?_set_self (by first | exact Mine.nin1 (hhk) | exact Mine.all1 (hhk) | simpa using hhk)]) (x.inv.know g sp e)
    (fun k hk => by
      have h1 := x.inv.top k g hk hg
      simp only [updc]
      by_cases q1 : (k : Int) = g
      · rw [if_pos q1]
        have : ¬ ((g : Int) = h) := hgi
        simp only [q1, if_neg this, if_true]
        rw [q1] at h1
        (first | exact ar161 | lia)
      · rw [if_neg q1]
        by_cases q2 : (k : Int) = h
        · rw [if_pos q2]
          simp only [q2, if_true, if_neg (Ne.symm hgi)]
          rw [q2] at h1
          (first | exact ar50 h1 | lia)
        · simp only [if_neg q1, if_neg q2]; exact h1) (fun y hy => x.inv.out g y hg hy)
  have eh : updc (cc B.cm) g (fun y => if y = (g : Int) then cc B.cm g g + 1 else cc B.cm g y) h h = cc B.cm h h := by rw [updc_ne _ _ (Ne.symm hgi)]
  rw [eh] at I4
  refine ⟨by simpa [hl] using x.kl1, by simpa [hl] using x.kl4, by simp [hl, x.kll], x.bd.mono (Nat.le_succ _), by have := x.rl; show B.rs.length ≤ _; (first | exact ar33 this | lia), x.rw, x.no, Nat.le_succ_of_le x.sl, x.sp, fun k hk => ?_, x.gk, ?_⟩
  · by_cases q : k = h
    · cases q
      exact ⟨c4, upd_at _ _ _, h4.1⟩
    · by_cases q2 : k = g
      · cases q2
        exact ⟨c3, by show upd (upd B.cm g c3) h c4 g = _; rw [upd, if_neg hgi, upd_at], h3.1⟩
      · obtain ⟨c', e1, k'⟩ := x.ck k (by simpa [hl] using hk)
        exact ⟨c', by show upd (upd B.cm g c3) h c4 k = _; rw [upd, if_neg (fun r => q (Int.ofNat_inj.mp r)), upd, if_neg (fun r => q2 (Int.ofNat_inj.mp r))]; exact e1, k'⟩
  · show Inv kl'.length _ (cc (upd (upd B.cm g c3) h c4)) (gg B.gm) _ _ _ _ _
    rw [hl, cc_upd, cc_upd]
    refine (I4.mono (by push_cast; (first | exact ar194 | lia))).congr ?_
    funext a y
    by_cases q : a = (h : Int)
    · cases q
      rw [updc_at, updc_at]
      rw [h4.2 y, updc_ne _ _ (Ne.symm hgi), updc_at, updc_ne _ _ (Ne.symm hgi)]
      rfl
    · rw [updc_ne _ _ q, updc_ne _ _ q]
      by_cases q2 : a = (g : Int)
      · cases q2
        rw [updc_at, updc_at, h3.2 y, updc_ne _ _ hgi, updc_at]
        rfl
      · rw [updc_ne _ _ q2, updc_ne _ _ q2, updc_ne _ _ q, updc_ne _ _ q2]
theorem Num.access (x : Num B t) (ht : t ≤ 18) {g : Nat} {sp : List (Int × Int)} (e : B.kn[g]? = some sp) {word : Str} (hw : word = readW ∨ word = writeW) {num : Int} {path : List Int} (hp : path.length ≤ 10) {w : World} {A : Ad} {n : Nat} {hs v : Heap} {ps' : List RwA} {rs' : List Dat}
    (Lk : Looked w A.C A.R A.P n t B.cm B.ps B.rs hs num g path word (cOf B.cm g) ps' rs' v) :
    Num { B with ps := ps', rs := rs', seen := B.seen ++ [⟨(g : Int), word, num, path, cc B.cm g g⟩] } (t + 1) ∧ ∀ d, d ∈ rs' ↔ d ∈ B.rs ∨ d ∈ (B.seen.filter (accT g word num path sp)).map fun r => rowD g num path word r.who r.word := by
  have hg : g < B.kl.length := by rw [← x.inv.len]; exact (List.getElem?_eq_some_iff.mp e).1
  have hrw : readW ≠ writeW := by decide
  have hmem : ∀ d, d ∈ rs' ↔ d ∈ B.rs ∨ d ∈ (B.seen.filter (accT g word num path sp)).map fun r => rowD g num path word r.who r.word := fun d => by
    rw [Lk.mem d]
    refine or_congr Iff.rfl ?_
    refine Iff.trans (x.inv.hits e (word := word) (num := num) (path := path) meetB (fun o er => rowD g num path word o er) d) ?_
    constructor
    · intro hp0_
      refine Mine.byv fun P_ kP_ => ?_
      obtain ⟨r, hr, a1, a2, a3, a4, a5, rfl⟩ := hp0_
      refine kP_ ?_
      clear kP_ P_
      refine List.mem_map.mpr ⟨r, List.mem_filter.mpr ⟨hr, ?_⟩, rfl⟩
      have : ([word, r.word].any fun x => x == Str.ofString "write") = true := by
        rcases a2 with a2 | a2
        · rw [a2]; rfl
        · rw [a2]; simp [writeW]
      simp [accT, a1, a3, a4, a5, this]
    · intro hd
      refine Mine.byv fun P_ kP_ => ?_
      obtain ⟨r, hr, rfl⟩ := List.mem_map.mp hd
      obtain ⟨hr, ha⟩ := List.mem_filter.mp hr
      refine kP_ ?_
      clear kP_ P_
      simp only [accT, Bool.and_eq_true, decide_eq_true_eq, List.any_cons, List.any_nil, Bool.or_false, Bool.or_eq_true, beq_iff_eq] at ha
      refine Mine.byv fun P_ kP_ => ?_
      obtain ⟨⟨⟨a1, a2⟩, a3, a4⟩, a5⟩ := ha
      refine kP_ ?_
      clear kP_ P_
      exact ⟨r, hr, a1, a2, a3, a4, a5, rfl⟩
  have ht2 : t * t ≤ 18 * t := Nat.mul_le_mul_right _ ht
  have hlen := Lk.len
  rw [Nat.mul_assoc] at hlen
  refine ⟨⟨x.kl1, x.kl4, x.kll, Lk.bd, by have := x.rl; show rs'.length ≤ _; lia, fun d hd => ?_, Lk.no x.no, by have := x.sl; simp; (first | exact ar1 this | lia), fun r hr => ?_, x.ck, x.gk, ?_⟩, hmem⟩
  · rcases (hmem d).mp hd with h | h
    · exact x.rw d h
    · obtain ⟨r, hr, rfl⟩ := List.mem_map.mp h
      refine Mine.byv fun P_ kP_ => ?_
      obtain ⟨_, _, _, hrw, _⟩ := x.inv.sok r (List.mem_filter.mp hr).1
      refine kP_ ?_
      clear kP_ P_
      exact ⟨g, num, path, word, r.who, r.word, hw, hrw, hp, rfl⟩
  · rcases List.mem_append.mp hr with h | h
    · exact x.sp r h
    · rw [List.mem_singleton.mp h]; exact hp
  · have := x.inv.look hg hw hrw (wf' := Wf ps') (rf' := Rf ps') (num := num) (path := path) (fun n' p' o => (Lk.wr n' p' o).1) (fun n' p' o => (Lk.wr n' p' o).2)
    exact this.mono (by push_cast; (first | exact ar61 | lia))
end
theorem isList_up {h h' : Heap} {a : Addr} {items : Array Value} (x : h.IsList a items) (k : Sub h h') : h'.IsList a items := let ⟨o, e, r⟩ := x; ⟨o, k _ _ e, r⟩
theorem list_tail {prog : Program} {w : World} {A : Around} {E : Value → Shared → Prop} {s : Shared} {value slice : Expr} {l : Addr} {vs : List Value} {k : Int} {t : Tok} {x : Value} {Q : Value → Shared → Prop} (hl : s.heap.IsList l vs.toArray) (k0 : 0 ≤ k) (hx : vs[k.toNat]? = some x) (hsz : vs.length ≤ 100000)
    (hq : Q x s) (hs : subscripted slice false (.ref l) (.int k t) = operate [.ref l, .int k t] (PySem.getItem (.ref l) (.int k t)) := by with_unfolding_all rfl) : wpAny (model prog w) A (subscriptTail value slice (.ref l) (.int k t)) Q E s := by
  have hkl : k.toNat < vs.length := by
    rcases Nat.lt_or_ge k.toNat vs.length with h | h
    · exact h
    · rw [List.getElem?_eq_none h] at hx; cases hx
  exact tail_any hl.typeIs slot_list_getitem.lookup (getItem_listL hl (by (first | exact ar21 k0 | lia)) (by lia) hx hq) hs
section
variable {p : Program} {loose : List Str} {mg mb : Str → Option Value} {w : World} {dp un : Nat} {fr : Option (List Env)} {gd : Option (List Code)} {h₀ v : Heap} {s : Shared} {Q : Value → Shared → Prop}
theorem one_call (X : (hd.heap_1 w.params).In h₀) (T : TopRead p loose mg mb h₀) (H : Sub h₀ v) (V : Sub v s.heap) (hdp : dp + 4 < recursionLimit) (hun : un + 40 < cLine)
  {S A : Addr} {vs : List Value} (DS : SrcI v S) (hoff : h₀.get? S = none) (hA : v.get? A = some (PySem.W.listOf vs.toArray 0)) (hAS : A ≠ S) (hl : 0 < vs.length) (hl2 : vs.length ≤ 1000)
  (ret : ∀ (r : Nat) x v' h' tk', Post s.heap v v' h' [S] → SrcI v' S → vs[r]? = some x → Q x {s with heap := h', toks := tk'}) :
  wpAny (model PySem.Challenge.rw_on0014_01.prog w) (Ar dp fr gd un) (call (.ref 252) [.ref S, .ref A]) Q (fun _ _ => False) s := by
  have X0 := X
  have T0 := T
  revert X; k_fill; intro X
  refine wpAny_call ?_
  k_dflt (refine' into (f := 252) [S] [("source", .ref S), ("things", .ref A)] X T H V ?o1 ?o2 ?k1 ?k2 ?k3 ?k4 ?k5 ?k6 ?k7 ?k8 ?k9 ?_; (case o1 => first | exact Mine.all1 hoff | simpa using hoff); (case o2 => first | exact Mine.all1 DS.alive | simpa using DS.alive); (case k1 => k_is); (case k2 => k_is); (case k3 => first | exact Nat.lt_of_le_of_lt (Nat.le_add_right _ _) hdp | lia); (case k4 => rfl); (case k5 => exact locs rfl); (case k6 => decide); (case k7 => rfl); (case k8 => rfl); (case k9 => rfl))
  intro g L h₁ fr' own A' e_ s1_ m0 Z F N Xg Tg
  iterate 16 walk1
  have V1 := Z.sub ‹Fr g L _ _› ‹News g L _ own› fun _ h => h
  refine call_len_list ⟨_, V1 _ _ hA, rfl, 0, rfl⟩ (by simp; (first | exact ar67 hl2 | lia)) ?_
  iterate 2 walk1
  rename Fr g L _ _ => F2
  rename News g L _ own => N2
  refine take_call X0 T0 Z.H (Z.sub F2 N2 fun _ h => h) (Mine.room hdp) (Mine.room hun) DS hoff (by simp; (first | exact ar206 hl | lia)) (by simp; (first | exact ar227 hl2 | lia)) fun r tr v3 h3 tk3 P3 DS3 r0 rl => ?_
  refine Z.backK F2 N2 P3 (by first | exact Mine.nin1 (Z.offg S (by first | exact nin_nil | exact all_nil | ((repeat (first | exact .head _ | refine .tail _ ?_)); done) | simp)) | exact Mine.all1 (Z.offg S (by first | exact nin_nil | exact all_nil | ((repeat (first | exact .head _ | refine .tail _ ?_)); done) | simp)) | simpa using Z.offg S (by first | exact nin_nil | exact all_nil | ((repeat (first | exact .head _ | refine .tail _ ?_)); done) | simp)) (by first | exact Mine.nin1 (DS.alive) | exact Mine.all1 (DS.alive) | simpa using DS.alive) ?_
  intro own3 mm_ Z3  F3  N3
  (try (refine Mine.wp_let ?_; intro sQ14_))
  have hA3 := P3.keeps _ _ (by first | exact Mine.nin1 (hAS) | exact Mine.all1 (hAS) | simpa using hAS) hA
  (try clear V1); (try clear F); (try clear N); (try clear F2); (try clear N2)
  have hr : r.toNat < vs.length := by simp at rl; lia
  skip
  rename Fr g L _ _ => F4
  rename News g L _ own3 => N4
  refine list_tail (x := vs[r.toNat]) ⟨_, Z3.sub F4 N4 (fun _ h => h) _ _ hA3, rfl, 0, rfl⟩ r0 (List.getElem?_eq_getElem hr) (by (first | exact ar229 hl2 | lia)) ?_
  k_steps
  (try k_steps)
  show Q _ _
  (try k_steps)
  exact ret _ _ v3 _ _ (Z3.post F4 N4) DS3 (List.getElem?_eq_getElem hr)
theorem pool_call (X : (hd.heap_1 w.params).In h₀) (T : TopRead p loose mg mb h₀) (H : Sub h₀ v) (V : Sub v s.heap) (hdp : dp + 4 < recursionLimit) (hun : un + 40 < cLine)
  {A : Addr} {vs : List Value} {ns : List Int} {tz : Tok} (hA : s.heap.IsList A vs.toArray) (hlen : vs.length ≤ 1000) (hI : IntsAre vs ns)
  (ret : ∀ S a b ta tb h' tk', Sub s.heap h' → s.heap.get? S = none → h'.get? S = some (PySem.W.listOf #[.int a ta, .int b tb] 0) → Q (.ref S) {s with heap := h', toks := tk'}) :
  wpAny (model PySem.Challenge.rw_on0014_01.prog w) (Ar dp fr gd un) (call (.ref 238) [.ref A, .int 0 tz]) Q (fun _ _ => False) s := by
  have X0 := X
  have T0 := T
  revert X; k_fill; intro X
  refine wpAny_call ?_
  k_dflt (refine' enter (f := 238) [] [("script", .ref A), ("k", .int 0 tz)] X T (H.trans V) ?oo ?k1 ?k2 ?k3 ?k4 ?k5 ?k6 ?k7 ?k8 ?k9 ?_; (case oo => first | exact Mine.all_nil | simp); (case k1 => k_is); (case k2 => k_is); (case k3 => first | exact Nat.lt_of_le_of_lt (Nat.le_add_right _ _) hdp | lia); (case k4 => rfl); (case k5 => exact locs rfl); (case k6 => decide); (case k7 => rfl); (case k8 => rfl); (case k9 => rfl))
  intro g L h₁ fr' A' e_ s1_ m0 Hg Hs Hk F N Xg Tg
  have hAg : g.IsList A vs.toArray := by
    obtain ⟨o, e, r⟩ := hA
    exact ⟨o, Hk _ _ (by first | exact nin_nil | exact all_nil | ((repeat (first | exact .head _ | refine .tail _ ?_)); done) | simp) e, r⟩
  have fin : ∀ l h' (a b : Int) (ta tb : Tok) (tk : Nat) (m : Str → Option Value) (rest : List (Addr × Obj)), Fr g L h' m → News g L h' ((l, PySem.W.listOf #[.int a ta, .int b tb] 0) :: rest) → Q (.ref l) {s with heap := h', toks := tk} := fun l h' a b ta tb tk m rest F N =>
    ret l a b ta tb h' tk (Hk.sub.trans (Fr.toSub F)) (by
      have e := (N _ (.head _)).2.2
      cases q : s.heap.get? l with
      | none => rfl
      | some o => have := Hk _ _ (by first | exact nin_nil | exact all_nil | ((repeat (first | exact .head _ | refine .tail _ ?_)); done) | simp) q; rw [e] at this; cases this) (N _ (.head _)).1
  iterate 15 walk1
  refine call_len_list (isList_up hAg (Fr.toSub ‹Fr g L _ _›)) (by simp; (first | exact ar67 hlen | lia)) ?_
  k_steps
  all_goals exact fin _ _ _ _ _ _ _ _ _ ‹Fr g L _ _› ‹News g L _ _›
end
section
variable {h₀ s0 v0 g vs v' h h' : Heap} {fp fp1 : List Addr} {L : Addr} {own : List (Addr × Obj)} {m : Str → Option Value}
/-- a call's end, with a cell that stands beside the view -/
theorem Ctx.backC {c : Addr × Obj} (Z : Ctx h₀ s0 v0 fp g L own vs) (F : Fr g L h m) (N : News g L h (c :: own)) (hcn : s0.get? c.1 = none) (P : Post h vs v' h' fp1) (hs : ∀ a ∈ fp1, a ∈ fp) (al : ∀ a ∈ fp1, ∃ o, vs.get? a = some o) :
    ∃ own', Ctx h₀ s0 v0 fp g L own' v' ∧ Fr g L h' m ∧ News g L h' (c :: own') := by
  refine Mine.byv fun P_ kP_ => ?_
  obtain ⟨own', Z', F', N'⟩ := Z.back F (News.pick N fun p hp => .tail _ hp) P (fun a ha => Z.offg a (hs a ha)) al
  refine kP_ ?_
  clear kP_ P_
  refine ⟨own', Z', F', fun p hp => ?_⟩
  rcases Mine.mem_sym hp with rfl | hp
  · refine ⟨P.heap _ _ (fun q => ?_) (N _ (.head _)).1, (N _ (.head _)).2⟩
    obtain ⟨o, e⟩ := Z.fpin _ (hs _ q)
    rw [Z.v0s _ _ e] at hcn; cases hcn
  · exact N' _ hp
theorem Ctx.backN (Z : Ctx h₀ s0 v0 fp g L own vs) (F : Fr g L h m) (N : News g L h own) (P : Post h vs v' h' fp1) (hs : ∀ a ∈ fp1, a ∈ fp) (al : ∀ a ∈ fp1, ∃ o, vs.get? a = some o) :
    ∃ own', Ctx h₀ s0 v0 fp g L own' v' ∧ Fr g L h' m ∧ News g L h' own' := Z.back F N P (fun a ha => Z.offg a (hs a ha)) al
end
section
variable {h₀ s0 v0 g vs v' h h' : Heap} {fp fp1 : List Addr} {L : Addr} {own news : List (Addr × Obj)} {m : Str → Option Value} {P0 : Prop}
theorem Ctx.backCK {c : Addr × Obj} (Z : Ctx h₀ s0 v0 fp g L own vs) (F : Fr g L h m) (N : News g L h (c :: own)) (hcn : s0.get? c.1 = none) (P : Post h vs v' h' fp1) (hs : ∀ a ∈ fp1, a ∈ fp) (al : ∀ a ∈ fp1, ∃ o, vs.get? a = some o)
    (k : ∀ own', let mm : Str → Option Value := m; Ctx h₀ s0 v0 fp g L own' v' → Fr g L h' mm → News g L h' (c :: own') → P0) : P0 := let ⟨own', a, b, c⟩ := Z.backC F N hcn P hs al; k own' a b c
end
theorem set_nodup {α : Type} {D : α} : ∀ {l : List α} {i : Nat}, l.Nodup → D ∉ l → (l.set i D).Nodup
  | [], _, _, _ => by simp
  | x :: l, 0, h, hD => by
    have := List.nodup_cons.mp h
    exact List.nodup_cons.mpr ⟨fun q => hD (.tail _ q), this.2⟩
  | x :: l, i + 1, h, hD => by
    have h' := List.nodup_cons.mp h
    refine List.nodup_cons.mpr ⟨fun q => ?_, set_nodup h'.2 fun q => hD (.tail _ q)⟩
    rcases List.mem_or_eq_of_mem_set q with q | q
    · exact h'.1 q
    · exact hD (q ▸ .head _)
/-- all that a deed may touch -/
noncomputable def fpAll (A : Ad) (B : Bs) : List Addr := [A.C, A.Ln, A.G, A.P, A.R, A.K, A.Sn, A.Gt, A.S] ++ allOf B.ps ++ fpOf B.lp
theorem fp_at {A : Ad} {B : Bs} {x : Addr} (h : x ∈ [A.C, A.Ln, A.G, A.P, A.R, A.K, A.Sn, A.Gt, A.S]) : x ∈ fpAll A B := List.mem_append_left _ (List.mem_append_left _ h)
theorem fpC {A : Ad} {B : Bs} : A.C ∈ fpAll A B := fp_at (.head _)
theorem fpG {A : Ad} {B : Bs} : A.G ∈ fpAll A B := fp_at (.tail _ (.tail _ (.head _)))
theorem fpR {A : Ad} {B : Bs} : A.R ∈ fpAll A B := fp_at (.tail _ (.tail _ (.tail _ (.tail _ (.head _)))))
theorem fpK {A : Ad} {B : Bs} : A.K ∈ fpAll A B := fp_at (.tail _ (.tail _ (.tail _ (.tail _ (.tail _ (.head _))))))
theorem fpSn {A : Ad} {B : Bs} : A.Sn ∈ fpAll A B := fp_at (.tail _ (.tail _ (.tail _ (.tail _ (.tail _ (.tail _ (.head _)))))))
theorem fpS {A : Ad} {B : Bs} : A.S ∈ fpAll A B := fp_at (.tail _ (.tail _ (.tail _ (.tail _ (.tail _ (.tail _ (.tail _ (.tail _ (.head _)))))))))
theorem fp_acc {A : Ad} {B : Bs} : ∀ a ∈ [A.C, A.R, A.P] ++ allOf B.ps ++ [A.Sn], a ∈ fpAll A B := fun a ha => by
  simp only [fpAll, List.mem_append, List.mem_cons, List.not_mem_nil, or_false] at ha ⊢
  rcases ha with ((q | q | q) | q) | q <;> simp [q]
theorem ne1 {a x : Addr} (h : a ∉ [x]) : a ≠ x := fun e => h (e ▸ .head _)
structure Sit (w : World) (h₀ v : Heap) (A : Ad) (B : Bs) (n m : Nat) : Prop where
  F : Facts w v A B n m
  G : Geo h₀ A B
theorem fpOf_all {lp : Option LA} {a : Addr} (h : a ∈ fpOf lp) : a ∈ lineAll lp := by
  cases lp with
  | none => cases h
  | some la =>
    simp only [fpOf, LA.fp, lineAll, List.mem_cons, List.not_mem_nil, or_false] at h ⊢
    exact .inr (.inr h)
section
variable {w : World} {h₀ v v' H h' : Heap} {A : Ad} {B : Bs} {n m : Nat}
theorem Sit.fpAlive (x : Sit w h₀ v A B n m) : ∀ a ∈ fpAll A B, ∃ o, v.get? a = some o := by
  have al := x.F.alive
  intro a ha
  simp only [fpAll, List.mem_append, List.mem_cons, List.not_mem_nil, or_false] at ha
  rcases ha with ((rfl | rfl | rfl | rfl | rfl | rfl | rfl | rfl | rfl) | ha) | ha
  · exact al 2 _ (.head _)
  · exact al 3 _ (.head _)
  · exact al 4 _ (.head _)
  · exact al 5 _ (.head _)
  · exact al 6 _ (.head _)
  · exact al 7 _ (.head _)
  · exact al 8 _ (.head _)
  · exact al 9 _ (.head _)
  · exact al 10 _ (.head _)
  · exact al 11 _ ha
  · exact al 12 _ (fpOf_all ha)
theorem Sit.fpOff (x : Sit w h₀ v A B n m) : ∀ a ∈ fpAll A B, h₀.get? a = none := by
  have al := x.G.off
  intro a ha
  simp only [fpAll, List.mem_append, List.mem_cons, List.not_mem_nil, or_false] at ha
  rcases ha with ((rfl | rfl | rfl | rfl | rfl | rfl | rfl | rfl | rfl) | ha) | ha
  · exact al 2 _ (.head _)
  · exact al 3 _ (.head _)
  · exact al 4 _ (.head _)
  · exact al 5 _ (.head _)
  · exact al 6 _ (.head _)
  · exact al 7 _ (.head _)
  · exact al 8 _ (.head _)
  · exact al 9 _ (.head _)
  · exact al 10 _ (.head _)
  · exact al 11 _ ha
  · exact al 12 _ (fpOf_all ha)
theorem Sit.up (x : Sit w h₀ v A B n m) (k : Sub v v') : Sit w h₀ v' A B n m := ⟨x.F.up k, x.G⟩
theorem Sit.mono {n' m' : Nat} (x : Sit w h₀ v A B n m) (hn : n ≤ n') (hm : m ≤ m') : Sit w h₀ v A B n' m' := ⟨x.F.mono hn hm, x.G⟩
theorem Sit.take (x : Sit w h₀ v A B n m) (k : Keeps [A.S] v v') (DS : SrcI v' A.S) : Sit w h₀ v' A B n m := by
  have M := x.F.mv x.G.nd [10] (fun a ha => by simpa [Sel, gsOf] using ha) k
  have f := x.F
  exact ⟨⟨f.kI M (by decide) (by decide), f.kDC M (by decide), f.kDL M (by decide) (by decide), f.kDG M (by decide), f.kDP M (by decide) (by decide), f.kDR M (by decide), f.kDK M (by decide) (by decide), f.kDSn M (by decide), f.kDGt M (by decide), DS⟩, x.G⟩
theorem Sit.know (x : Sit w h₀ v A B n m) (V : Sub v H) (hH : Sub h₀ H) (k : Keeps [A.K] v v') {i : Nat} {D : Addr} {kn' : List (List (Int × Int))} (DK : KnownAt w v' A.K (B.kl.set i D) kn') (hD : H.get? D = none) : Sit w h₀ v' A { B with kl := B.kl.set i D, kn := kn' } n m := by
  have M := x.F.mv x.G.nd [7] (fun a ha => by simpa [Sel, gsOf] using ha) k
  have f := x.F
  have al : ∀ j, ∀ a ∈ gsOf A B j, ∃ o, H.get? a = some o := fun j a ha => let ⟨o, e⟩ := f.alive j a ha; ⟨o, V _ _ e⟩
  have hDk : D ∉ B.kl := fun q => by
    obtain ⟨o, e⟩ := al 13 D q
    rw [hD] at e; cases e
  have eset : gsOf A { B with kl := B.kl.set i D, kn := kn' } 13 = B.kl.set i D := rfl
  refine ⟨⟨f.kI M (by decide) (by decide), f.kDC M (by decide), f.kDL M (by decide) (by decide), f.kDG M (by decide), f.kDP M (by decide) (by decide), f.kDR M (by decide), DK, f.kDSn M (by decide), f.kDGt M (by decide), f.kDS M (by decide)⟩,
    x.G.turn (H := H) 13 (fun j hj => ?_) (set_nodup (x.G.nd.1 13) hDk) (fun a ha => ?_) al hH⟩
  · unfold gsOf
    split <;> first | rfl | exact absurd rfl hj
  · rcases List.mem_or_eq_of_mem_set ha with q | q
    · exact .inl q
    · exact .inr (q ▸ hD)
theorem Sit.born (x : Sit w h₀ v A B n m) (k : Keeps [A.K] v v') {D : Addr} {kn' : List (List (Int × Int))} (DK : KnownAt w v' A.K (B.kl ++ [D]) kn') (hD : D ∉ B.kl) (hD1 : ∀ j, ∀ a ∈ gsOf A B j, a ≠ D) (hD2 : h₀.get? D = none) : Sit w h₀ v' A { B with kl := B.kl ++ [D], kn := kn' } n m := by
  have M := x.F.mv x.G.nd [7] (fun a ha => by simpa [Sel, gsOf] using ha) k
  have f := x.F
  refine ⟨⟨f.kI M (by decide) (by decide), f.kDC M (by decide), f.kDL M (by decide) (by decide), f.kDG M (by decide), f.kDP M (by decide) (by decide), f.kDR M (by decide), DK, f.kDSn M (by decide), f.kDGt M (by decide), f.kDS M (by decide)⟩, ?_⟩
  have same : ∀ j, j ≠ 13 → gsOf A { B with kl := B.kl ++ [D], kn := kn' } j = gsOf A B j := fun j hj => by
    unfold gsOf
    split <;> first | rfl | exact absurd rfl hj
  have e13 : gsOf A { B with kl := B.kl ++ [D], kn := kn' } 13 = B.kl ++ [D] := rfl
  have b13 : gsOf A B 13 = B.kl := rfl
  have key : ∀ j, j ≠ 13 → ∀ a ∈ B.kl ++ [D], a ∉ gsOf A B j := fun j hj a ha q => by
    rcases List.mem_append.mp ha with ha | ha
    · exact x.G.nd.2 13 j (Ne.symm hj) a (b13 ▸ ha) q
    · exact hD1 j a q (List.mem_singleton.mp ha)
  refine ⟨⟨fun j => ?_, fun i j hij a ha q => ?_⟩, fun j a ha => ?_⟩
  · by_cases hj : j = 13
    · subst hj
      rw [e13]
      refine List.nodup_append.mpr ⟨x.G.nd.1 13, by simp, fun a ha b hb e => ?_⟩
      rw [List.mem_singleton.mp hb] at e
      exact hD (e ▸ ha)
    · rw [same j hj]; exact x.G.nd.1 j
  · by_cases hi : i = 13
    · subst hi
      rw [same j (Ne.symm hij)] at q
      exact key j (Ne.symm hij) a (e13 ▸ ha) q
    · by_cases hj : j = 13
      · subst hj
        rw [same i hi] at ha
        exact key i hi a (e13 ▸ q) ha
      · rw [same i hi] at ha
        rw [same j hj] at q
        exact x.G.nd.2 i j hij a ha q
  · by_cases hj : j = 13
    · subst hj
      rcases List.mem_append.mp (e13 ▸ ha) with ha | ha
      · exact x.G.off 13 a ha
      · rw [List.mem_singleton.mp ha]; exact hD2
    · rw [same j hj] at ha; exact x.G.off j a ha
theorem Sit.gated (x : Sit w h₀ v A B n m) (k : Keeps [A.Gt] v v') {gates' : List (Int × Int)} (DGt : ListAt v' A.Gt (gates'.map spanD)) : Sit w h₀ v' A { B with gates := gates' } n m := by
  have M := x.F.mv x.G.nd [9] (fun a ha => by simpa [Sel, gsOf] using ha) k
  have f := x.F
  exact ⟨⟨f.kI M (by decide) (by decide), f.kDC M (by decide), f.kDL M (by decide) (by decide), f.kDG M (by decide), f.kDP M (by decide) (by decide), f.kDR M (by decide), f.kDK M (by decide) (by decide), f.kDSn M (by decide), DGt, f.kDS M (by decide)⟩, x.G.same rfl rfl rfl⟩
theorem Sit.clocks (x : Sit w h₀ v A B n m) (k : Keeps [A.C] v v') {n' : Nat} {cm' : Int → Option (List (Int × Int))} (DC : CM w v' A.C n' cm') : Sit w h₀ v' A { B with cm := cm' } n' m := by
  have M := x.F.mv x.G.nd [2] (fun a ha => by simpa [Sel, gsOf] using ha) k
  have f := x.F
  exact ⟨⟨f.kI M (by decide) (by decide), DC, f.kDL M (by decide) (by decide), f.kDG M (by decide), f.kDP M (by decide) (by decide), f.kDR M (by decide), f.kDK M (by decide) (by decide), f.kDSn M (by decide), f.kDGt M (by decide), f.kDS M (by decide)⟩, x.G.same rfl rfl rfl⟩
theorem Sit.clocksG (x : Sit w h₀ v A B n m) (k : Keeps [A.C, A.G] v v') {n' m' : Nat} (hm : m ≤ m') {cm' gm' : Int → Option (List (Int × Int))} (DC : CM w v' A.C n' cm') (DG : CM w v' A.G m' gm') : Sit w h₀ v' A { B with cm := cm', gm := gm' } n' m' := by
  have M := x.F.mv x.G.nd [2, 4] (fun a ha => by simpa [Sel, gsOf] using ha) k
  have f := x.F
  exact ⟨⟨f.kI M (by decide) (by decide), DC, (f.kDL M (by decide) (by decide)).mono hm, DG, f.kDP M (by decide) (by decide), f.kDR M (by decide), f.kDK M (by decide) (by decide), f.kDSn M (by decide), f.kDGt M (by decide), f.kDS M (by decide)⟩, x.G.same rfl rfl rfl⟩
theorem Sit.handed (x : Sit w h₀ v A B n m) (V : Sub v H) (hH : Sub h₀ H) (k : Keeps ([A.C, A.Ln] ++ fpOf B.lp) v v') {n' : Nat} {cm' : Int → Option (List (Int × Int))} {la : LA} (DC : CM w v' A.C n' cm') (DL : LS w v' A.Ln (some la) (m + 1))
    (hnd : (lineAll (some la)).Nodup) (hnew : B.lp = some la ∨ (B.lp = none ∧ ∀ x ∈ lineAll (some la), H.get? x = none)) : Sit w h₀ v' A { B with cm := cm', lp := some la } n' (m + 1) := by
  have M := x.F.mv x.G.nd [2, 3, 12] (fun a ha => by
    simp only [List.mem_append, List.mem_cons, List.not_mem_nil, or_false] at ha
    simp only [Sel, List.flatMap_cons, List.flatMap_nil, List.append_nil, gsOf, List.mem_append, List.mem_cons, List.not_mem_nil, or_false]
    rcases ha with (ha | ha) | ha
    · exact .inl ha
    · exact .inr (.inl ha)
    · exact .inr (.inr (fpOf_all ha))) k
  have f := x.F
  have al : ∀ j, ∀ a ∈ gsOf A B j, ∃ o, H.get? a = some o := fun j a ha => let ⟨o, e⟩ := f.alive j a ha; ⟨o, V _ _ e⟩
  refine ⟨⟨f.kI M (by decide) (by decide), DC, DL, (f.kDG M (by decide)).mono (Nat.le_succ _), f.kDP M (by decide) (by decide), f.kDR M (by decide), f.kDK M (by decide) (by decide), f.kDSn M (by decide), f.kDGt M (by decide), f.kDS M (by decide)⟩,
    x.G.turn (H := H) 12 (fun j hj => ?_) hnd (fun a ha => ?_) al hH⟩
  · unfold gsOf
    split <;> first | rfl | exact absurd rfl hj
  · rcases hnew with q | ⟨_, q⟩
    · exact .inl (by show a ∈ lineAll B.lp; rw [q]; exact ha)
    · exact .inr (q a ha)
theorem Sit.accessed (x : Sit w h₀ v A B n m) (V : Sub v H) (hH : Sub h₀ H) (k : Keeps ([A.C, A.R, A.P] ++ allOf B.ps ++ [A.Sn]) v v') {num gI : Int} {path : List Int} {word : Str} {c : List (Int × Int)} {ps' : List RwA} {rs' : List Dat}
    (Lk : Looked w A.C A.R A.P n m B.cm B.ps B.rs H num gI path word c ps' rs' v') {seen' : List SeenR} (DSn : ListAt v' A.Sn (seen'.map seenD)) : Sit w h₀ v' A { B with ps := ps', rs := rs', seen := seen' } (n + 2 * m + 1) (m + 1) := by
  have M := x.F.mv x.G.nd [2, 5, 6, 8, 11] (fun a ha => by
    simp only [List.mem_append, List.mem_cons, List.not_mem_nil, or_false] at ha
    simp only [Sel, List.flatMap_cons, List.flatMap_nil, List.append_nil, gsOf, List.mem_append, List.mem_cons, List.not_mem_nil, or_false]
    rcases ha with ((ha | ha | ha) | ha) | ha
    · exact .inl ha
    · exact .inr (.inr (.inl ha))
    · exact .inr (.inl ha)
    · exact .inr (.inr (.inr (.inr ha)))
    · exact .inr (.inr (.inr (.inl ha)))) k
  have f := x.F
  have al : ∀ j, ∀ a ∈ gsOf A B j, ∃ o, H.get? a = some o := fun j a ha => let ⟨o, e⟩ := f.alive j a ha; ⟨o, V _ _ e⟩
  refine ⟨⟨f.kI M (by decide) (by decide), Lk.DC, (f.kDL M (by decide) (by decide)).mono (Nat.le_succ _), (f.kDG M (by decide)).mono (Nat.le_succ _), Lk.DP, Lk.DR, f.kDK M (by decide) (by decide), DSn, f.kDGt M (by decide), f.kDS M (by decide)⟩,
    x.G.turn (H := H) 11 (fun j hj => ?_) Lk.nd Lk.all al hH⟩
  unfold gsOf
  split <;> first | rfl | exact absurd rfl hj
end
section
variable {w : World} {Ar : Around} {E : Value → Shared → Prop} {s : Shared} {v : Heap} {K : Addr} {kl : List Addr} {kn : List (List (Int × Int))}
theorem known_len (DK : KnownAt w v K kl kn) (V : Sub v s.heap) (hkl : kl.length ≤ 100) {Q : Value → Shared → Prop} (h : Q (.int (kl.length : Int) (s.toks + 1)) { s with toks := s.toks + 1 + 1 }) : wpAny (model PG w) Ar (call (.builtin "len") [.ref K]) Q E s := by
  refine Mine.byv fun P_ kP_ => ?_
  obtain ⟨lo, _, ⟨kvs, D, hl, _⟩, _⟩ := DK
  refine kP_ ?_
  clear kP_ P_
  refine call_len_dict lo (D.keep V) (by lia) ?_
  rw [hl]; exact h
end
section
variable {prog : Program} {w : World} {Ar : Around} {E : Value → Shared → Prop} {s : Shared} {vs : Heap} {l b : Addr}
theorem list_extend_method {xs : Array Value} {n : Nat} (e : vs.get? l = some (listOf xs n)) (V : Sub vs s.heap) {pl : Sem Bool} {Q : Value × List Value → Shared → Prop} (h : Q (.builtin "list.extend", [.ref l]) s) : wpAny (model prog w) Ar (getMethod (.ref l) "extend" pl) Q E s :=
  getMethod_list_of PySem.F.slot_list_extend PySem.F.type_list_extend ⟨_, V _ _ e, rfl, n, rfl⟩ ⟨_, V _ _ e, rfl⟩ h
theorem list_extend_post {xs : List Value} {ys : List Value} {n n2 : Nat} (e : vs.get? l = some (listOf xs.toArray n)) (V : Sub vs s.heap) (eb : s.heap.get? b = some (listOf ys.toArray n2)) {Q : Value → Shared → Prop} (hsz : xs.length + ys.length ≤ 100000)
    (h : ∀ v' h' k, Post s.heap vs v' h' [l] → v'.get? l = some (listOf (xs ++ ys).toArray k) → Q .none { s with heap := h' }) : wpAny (model prog w) Ar (call (.builtin "list.extend") [.ref l, .ref b]) Q E s := by
  have e1 := V _ _ e
  have hsz' : xs.toArray.size + ys.toArray.size ≤ sizeLine := by rw [List.size_toArray, List.size_toArray, sizeLine_eq]; (first | exact ar279 hsz | lia)
  refine call_meets PySem.F.slot_list_extend ⟨_, e1, rfl⟩ PySem.F.entry_list_extend (PySem.F.args_list_extend_2 _ _) (AutoSeq1.list_extend_list_list_0 l xs.toArray n b ys.toArray n2 (extend_door hsz') (Nat.le_trans (Nat.le_add_right _ _) hsz')) ⟨e1, eb, ?_⟩
  have e2 : xs.toArray ++ ys.toArray = (xs ++ ys).toArray := by simp
  have ho' : (s.heap.update l (Obj.mapSeq fun x => x ++ ys.toArray)).get? l = some (listOf (xs ++ ys).toArray (if (xs.toArray ++ ys.toArray).size == xs.toArray.size then n else n + 1)) := by
    rw [Heap.get?_update_self _ e1 (by rw [mapSeq_app]; rfl), mapSeq_app, e2]
  have hk : Keeps [l] s.heap (s.heap.update l (Obj.mapSeq fun x => x ++ ys.toArray)) := fun b o hb e => ((Heap.SameBut.update ..).2 b (by first | exact Mine.nin1 (hb) | exact Mine.all1 (hb) | simpa using hb)).trans e
  obtain ⟨v', P, hv'⟩ := Post.one V ⟨_, e⟩ hk ho'
  exact h v' _ _ P hv'
end
theorem path_of {v : Heap} {a : Addr} {xs : List Value} {ns : List Int} (e : v.get? a = some (tupObj xs 0)) (h : IntsAre xs ns) : DatH v (.ref a) (pathD ns) := DatH.tuple e (DatsH.ofInts _ h)
theorem src_ne {v : Heap} {l S : Addr} {xs : Array Value} {n : Nat} (DS : SrcI v S) (e : v.get? l = some (PySem.W.listOf xs n)) (h : xs.size ≠ 2) : l ≠ S := fun q => by
  refine Mine.byv fun P_ kP_ => ?_
  obtain ⟨_, _, _, _, e'⟩ := DS
  refine kP_ ?_
  clear kP_ P_
  rw [q, e'] at e
  have e1 := congrArg Obj.data (Option.some.inj e)
  injection e1 with e2
  rw [← e2] at h
  exact h rfl
/-- things of a menu: paths -/
noncomputable def Menu (v : Heap) (vs : List Value) : Prop := ∀ x ∈ vs, ∃ path : List Int, DatH v x (pathD path) ∧ path.length ≤ 3
theorem Menu.nil (v : Heap) : Menu v [] := fun _ h => by cases h
theorem Menu.cons {v : Heap} {a : Addr} {xs : List Value} {ns : List Int} {vs : List Value} (h : IntsAre xs ns) (hl : ns.length ≤ 3) (e : v.get? a = some (tupObj xs 0)) (m : Menu v vs) : Menu v (.ref a :: vs) := fun x hx => by
  rcases Mine.mem_sym hx with rfl | hx
  · exact ⟨ns, path_of e h, hl⟩
  · exact m x hx
section
variable {p : Program} {loose : List Str} {mg mb : Str → Option Value} {w : World} {dp un : Nat} {fr : Option (List Env)} {gd : Option (List Code)} {h₀ v : Heap} {s : Shared} {Q : Value → Shared → Prop}
theorem right_call (X : (hd.heap_1 w.params).In h₀) (T : TopRead p loose mg mb h₀) (H : Sub h₀ v) (V : Sub v s.heap) (hdp : dp + 8 < recursionLimit) (hun : un + 100 < cLine)
  {S : Addr} (DS : SrcI v S) (hoff : h₀.get? S = none)
  (ret : ∀ v' h' tk', Post s.heap v v' h' [S] → Q (.bool true) {s with heap := h', toks := tk'}) :
  wpAny (model PySem.Challenge.rw_on0014_01.prog w) (Ar dp fr gd un) (call (.ref 286) [.ref S]) Q (fun _ _ => False) s := by
  have X0 := X
  have T0 := T
  revert X; k_fill; intro X
  refine wpAny_call ?_
  k_dflt (refine' into (f := 286) [S] [("source", .ref S)] X T H V ?o1 ?o2 ?k1 ?k2 ?k3 ?k4 ?k5 ?k6 ?k7 ?k8 ?k9 ?_; (case o1 => first | exact Mine.all1 hoff | simpa using hoff); (case o2 => first | exact Mine.all1 DS.alive | simpa using DS.alive); (case k1 => k_is); (case k2 => k_is); (case k3 => first | exact Nat.lt_of_le_of_lt (Nat.le_add_right _ _) hdp | lia); (case k4 => rfl); (case k5 => exact locs rfl); (case k6 => decide); (case k7 => rfl); (case k8 => rfl); (case k9 => rfl))
  intro g L h₁ fr' own A' e_ s1_ m0 Z F N Xg Tg
  iterate 62 walk1
  rename Fr g L _ _ => F1
  rename News g L _ (_ :: _) => N1
  refine Z.growK F1 N1 (fun p hp => by repeat (first | exact hp | refine List.Mem.tail _ ?_)) fun v1  Z1  k1  k2  kn1 => ?_
  have M1 : Menu v1 [_, _, _, _, _, _] := Menu.cons (ns := []) .nil (by decide) (kn1 _ (.tail _ (.tail _ (.tail _ (.tail _ (.tail _ (.tail _ (.head _)))))))) (Menu.cons (ns := [0]) (.cons _ _ .nil) (by decide) (kn1 _ (.tail _ (.tail _ (.tail _ (.tail _ (.tail _ (.head _))))))) (Menu.cons (ns := [1]) (.cons _ _ .nil) (by decide) (kn1 _ (.tail _ (.tail _ (.tail _ (.tail _ (.head _)))))) (Menu.cons (ns := [0, 1]) (.cons _ _ (.cons _ _ .nil)) (by decide) (kn1 _ (.tail _ (.tail _ (.tail _ (.head _))))) (Menu.cons (ns := [0, 2]) (.cons _ _ (.cons _ _ .nil)) (by decide) (kn1 _ (.tail _ (.tail _ (.head _)))) (Menu.cons (ns := [0, 1, 3]) (.cons _ _ (.cons _ _ (.cons _ _ .nil))) (by decide) (kn1 _ (.tail _ (.head _))) (Menu.nil _))))))
  have hA1 := kn1 _ (.head _)
  have hAS := src_ne (DS.up k1) hA1 (by first | exact nin_nil | exact all_nil | ((repeat (first | exact .head _ | refine .tail _ ?_)); done) | simp)
  (try clear F); (try clear N)
  refine one_call (vs := [_, _, _, _, _, _]) X0 T0 Z1.H k2 (Mine.room hdp) (Mine.room hun) (DS.up k1) hoff hA1 hAS (by first | exact nin_nil | exact all_nil | ((repeat (first | exact .head _ | refine .tail _ ?_)); done) | simp) (by first | exact nin_nil | exact all_nil | ((repeat (first | exact .head _ | refine .tail _ ?_)); done) | simp) fun r1 x1 v2 h3 tk3 P2 DS2 hx1 => ?_
  refine Z1.backK F1 N1 P2 (by first | exact Mine.nin1 (Z.offg S (by first | exact nin_nil | exact all_nil | ((repeat (first | exact .head _ | refine .tail _ ?_)); done) | simp)) | exact Mine.all1 (Z.offg S (by first | exact nin_nil | exact all_nil | ((repeat (first | exact .head _ | refine .tail _ ?_)); done) | simp)) | simpa using Z.offg S (by first | exact nin_nil | exact all_nil | ((repeat (first | exact .head _ | refine .tail _ ?_)); done) | simp)) (by first | exact Mine.nin1 ((DS.up k1).alive) | exact Mine.all1 ((DS.up k1).alive) | simpa using (DS.up k1).alive) ?_
  intro own2 mm_ Z2  F2  N2
  (try (refine Mine.wp_let ?_; intro sQ49_))
  have hA2 := P2.keeps _ _ (by first | exact Mine.nin1 (hAS) | exact Mine.all1 (hAS) | simpa using hAS) hA1
  have M2 : Menu v2 _ := fun x hx => (M1 x hx).imp fun path q => ⟨q.1.keeps P2.keeps (DS.up k1).noTup, q.2⟩
  (try clear F1); (try clear N1)
  iterate 10 walk1
  rename Fr g L _ _ => F3
  rename News g L _ own2 => N3
  refine one_call (vs := [_, _, _, _, _, _]) X0 T0 Z2.H (Z2.sub F3 N3 fun _ h => h) (Mine.room hdp) (Mine.room hun) DS2 hoff hA2 hAS (by first | exact nin_nil | exact all_nil | ((repeat (first | exact .head _ | refine .tail _ ?_)); done) | simp) (by first | exact nin_nil | exact all_nil | ((repeat (first | exact .head _ | refine .tail _ ?_)); done) | simp) fun r2 x2 v3 h4 tk4 P3 DS3 hx2 => ?_
  refine Z2.backK F3 N3 P3 (by first | exact Mine.nin1 (Z.offg S (by first | exact nin_nil | exact all_nil | ((repeat (first | exact .head _ | refine .tail _ ?_)); done) | simp)) | exact Mine.all1 (Z.offg S (by first | exact nin_nil | exact all_nil | ((repeat (first | exact .head _ | refine .tail _ ?_)); done) | simp)) | simpa using Z.offg S (by first | exact nin_nil | exact all_nil | ((repeat (first | exact .head _ | refine .tail _ ?_)); done) | simp)) (by first | exact Mine.nin1 (DS2.alive) | exact Mine.all1 (DS2.alive) | simpa using DS2.alive) ?_
  intro own3 mm_ Z3  F4  N4
  (try (refine Mine.wp_let ?_; intro sQ50_))
  have M3 : Menu v3 _ := fun x hx => (M2 x hx).imp fun path q => ⟨q.1.keeps P3.keeps DS2.noTup, q.2⟩
  refine Mine.byv fun P_ kP_ => ?_
  obtain ⟨p1, hp1, l1⟩ := M3 x1 (List.mem_of_getElem? hx1)
  obtain ⟨p2, hp2, l2⟩ := M3 x2 (List.mem_of_getElem? hx2)
  refine kP_ ?_
  clear kP_ P_
  (try clear F2); (try clear N2); (try clear F3); (try clear N3)
  iterate 23 walk1
  rename Fr g L _ _ => F5
  have N5 := News.pick (l := own3) ‹News g L _ (_ :: own3)› fun p hp => .tail _ hp
  have V5 := Z3.sub F5 N5 fun _ h => h
  refine meet_call Xg Tg (Fr.toSub F5) (Mine.room hdp) (Mine.room hun) (hp1.up V5) (hp2.up V5) (by (first | exact ar88 l1 l2 | lia)) fun h5 tk5 k5 => ?_
  refine Z3.pureK F5 N5 k5 ?_
  intro v5 own5 mm_ Z5  F6  N6  kv5  kh5  hall  _
  (try (refine Mine.wp_let ?_; intro sQ51_))
  (try clear F4); (try clear N4); (try clear F5); (try clear N5)
  iterate 21 walk1
  rename Fr g L _ _ => F7
  rename News g L _ (_ :: _ :: own5) => N7
  have V7 := Z5.sub F7 N7 fun p hp => by repeat (first | exact hp | refine List.Mem.tail _ ?_)
  refine law_meets (na := 0) (nb := 0) (a := p1) (b := p2) Xg Tg (Fr.toSub F7) (Mine.room hdp) (Mine.room hun) (DatH.tuple (n := 0) (vs := [_, _]) (N7 _ (.tail _ (.head _))).1 (DatsH.cons (DatH.int _ _ _) (DatsH.cons ((hp1.up kv5).up V7) (DatsH.nil _)))) (DatH.tuple (n := 0) (vs := [_, _]) (N7 _ (.head _)).1 (DatsH.cons (DatH.int _ _ _) (DatsH.cons ((hp2.up kv5).up V7) (DatsH.nil _)))) (by (first | exact ar88 l1 l2 | lia)) fun b h8 tk8 k8 hb => ?_
  obtain rfl : b = meetB p1 p2 := by
    cases b
    · cases q : meetB p1 p2
      · rfl
      · exact absurd (hb.mpr ⟨rfl, q⟩) (by first | exact nin_nil | exact all_nil | ((repeat (first | exact .head _ | refine .tail _ ?_)); done) | simp)
    · exact (hb.mp rfl).2.symm
  refine Z5.pureK F7 (News.pick N7 fun p hp => by repeat (first | exact hp | refine List.Mem.tail _ ?_)) k8 ?_
  intro v8 own8 mm_ Z8  F8  N8  kv8  kh8  _  _
  (try (refine Mine.wp_let ?_; intro sQ52_))
  (try clear F6); (try clear N6); (try clear F7); (try clear N7)
  k_steps
  rename Fr g L _ _ => F9
  rename News g L _ own8 => N9
  (try k_steps)
  show Q (.bool _) _
  rw [beq_self_eq_true]
  (try k_steps)
  exact ret v8 _ _ (Z8.post F9 N9)
end
theorem src_neS {v : Heap} {l S : Addr} {xs : Array Value} {n : Nat} (DS : SrcI v S) (e : v.get? l = some (PySem.W.listOf xs n)) (h : ∀ a ta, xs[0]? ≠ some (Value.int a ta)) : l ≠ S := fun q => by
  refine Mine.byv fun P_ kP_ => ?_
  obtain ⟨a, b, ta, tb, e'⟩ := DS
  refine kP_ ?_
  clear kP_ P_
  rw [q, e'] at e
  have e1 := congrArg Obj.data (Option.some.inj e)
  injection e1 with e2
  rw [← e2] at h
  exact h a ta rfl
theorem klSet {kl0 kl : List Addr} {H : Heap} {i : Nat} {D : Addr} (h : ∀ a ∈ kl, a ∈ kl0 ∨ H.get? a = none) (hD : H.get? D = none) : ∀ a ∈ kl.set i D, a ∈ kl0 ∨ H.get? a = none := fun a ha => by
  rcases List.mem_or_eq_of_mem_set ha with q | q
  · exact h a q
  · exact .inr (q ▸ hD)
section
variable {g h : Heap} {L : Addr} {c a1 a2 a3 a4 a5 a6 a7 : Addr × Obj} {own : List (Addr × Obj)}
theorem News.swap1 (N : News g L h (a1 :: c :: own)) : News g L h (c :: a1 :: own) := fun p hp => N p (by
  simp only [List.mem_cons] at hp ⊢
  rcases hp with q | q | q <;> simp [q])
theorem News.swap2 (N : News g L h (a1 :: a2 :: c :: own)) : News g L h (c :: a1 :: a2 :: own) := fun p hp => N p (by
  simp only [List.mem_cons] at hp ⊢
  rcases hp with q | q | q | q <;> simp [q])
theorem News.swap7 (N : News g L h (a1 :: a2 :: a3 :: a4 :: a5 :: a6 :: a7 :: c :: own)) : News g L h (c :: a1 :: a2 :: a3 :: a4 :: a5 :: a6 :: a7 :: own) := fun p hp => N p (by
  simp only [List.mem_cons] at hp ⊢
  rcases hp with q | q | q | q | q | q | q | q | q <;> simp [q])
end
theorem fpGt {A : Ad} {B : Bs} : A.Gt ∈ fpAll A B := fp_at (.tail _ (.tail _ (.tail _ (.tail _ (.tail _ (.tail _ (.tail _ (.head _))))))))
section
variable {p : Program} {loose : List Str} {mg mb : Str → Option Value} {w : World} {dp un : Nat} {fr : Option (List Env)} {gd : Option (List Code)} {h₀ v : Heap} {s : Shared} {Q : Value → Shared → Prop}
theorem deed_call (X : (hd.heap_1 w.params).In h₀) (T : TopRead p loose mg mb h₀) (H : Sub h₀ v) (V : Sub v s.heap) (hdp : dp + 16 < recursionLimit) (hun : un + 300 < cLine)
  {A : Ad} {B : Bs} {t : Nat} (S : Sit w h₀ v A B (20 + 40 * t) t) (N0 : Num B t) (ht : t ≤ 17)
  (ret : ∀ r rows B' v' h' tk', Post s.heap v v' h' (fpAll A B) → Sit w h₀ v' A B' (20 + 40 * (t + 1)) (t + 1) → Num B' (t + 1) → ListAt v' r rows → (∀ d, d ∈ B'.rs ↔ d ∈ B.rs ∨ d ∈ rows) → rows.length ≤ 100 → (B'.lp = B.lp ∨ (B.lp = none ∧ ∀ x ∈ lineAll B'.lp, s.heap.get? x = none)) → (∀ a ∈ B'.kl, a ∈ B.kl ∨ s.heap.get? a = none) → s.heap.get? r = none → Q (.ref r) {s with heap := h', toks := tk'}) :
  wpAny (model PySem.Challenge.rw_on0014_01.prog w) (Ar dp fr gd un) (call (.ref 279) [.ref A.S, .ref A.W, .ref A.K, .ref A.Sn, .ref A.Gt]) Q (fun _ _ => False) s := by
  have hkl1 := N0.kl1
  have hkl4 := N0.kl4
  have X0 := X
  have T0 := T
  revert X; k_fill; intro X
  refine wpAny_call ?_
  k_dflt (refine' intoC (f := 279) (fpAll A B) [("source", .ref A.S), ("watch", .ref A.W), ("known", .ref A.K), ("seen", .ref A.Sn), ("gates", .ref A.Gt)] X T H V ?o1 ?o2 ?k1 ?k2 ?k3 ?k4 ?k5 ?k6 ?k7 ?k8 ?k9 ?_; (case o1 => exact S.fpOff); (case o2 => exact S.fpAlive); (case k1 => k_is); (case k2 => k_is); (case k3 => first | exact Nat.lt_of_le_of_lt (Nat.le_add_right _ _) hdp | lia); (case k4 => exact BindsTo.of_eq rfl); (case k5 => exact rfl); (case k6 => decide +kernel); (case k7 => rfl); (case k8 => rfl); (case k9 => rfl))
  intro g L h₁ tk1 fr' cells own A' e_ s1_ m0 Z F N Y hcn Xg Tg hsz
  k_cells Y
  simp only [List.cons_append, List.nil_append] at N
  iterate 16 walk1
  rename Fr g L _ _ => F1
  rename News g L _ (_ :: own) => N1
  refine known_len S.F.DK (Z.sub F1 N1 fun _ h => .tail _ h) (by (first | exact ar27 hkl4 | lia)) ?_
  iterate 2 walk1
  (try clear F); (try clear N)
  refine take_call X0 T0 Z.H (Z.sub F1 N1 fun _ h => .tail _ h) (Mine.room hdp) (Mine.room hun) S.F.DS (S.G.off 10 _ (.head _)) (by (first | exact ar216 hkl1 | lia)) (by (first | exact ar234 hkl4 | lia)) fun who tw v1 h2 tk2 P1 DS1 w0 wl => ?_
  refine Z.backCK F1 N1 (hcn _ (.head _)) P1 (Mine.all1 (by first | exact fpK | exact fpS | exact fpC | exact fpR | exact fpSn | exact fpGt)) (by first | exact Mine.nin1 (S.F.DS.alive) | exact Mine.all1 (S.F.DS.alive) | simpa using S.F.DS.alive) ?_
  intro own1 mm_ Z1  F2  N2
  (try (refine Mine.wp_let ?_; intro sQ29_))
  have S1 := S.take P1.keeps DS1
  obtain ⟨i, rfl⟩ := Int.eq_ofNat_of_zero_le w0
  (try clear F1); (try clear N1)
  iterate 10 walk1
  rename Fr g L _ _ => F3
  rename News g L _ (_ :: own1) => N3
  refine take_call X0 T0 Z1.H (Z1.sub F3 N3 fun _ h => .tail _ h) (Mine.room hdp) (Mine.room hun) S1.F.DS (S1.G.off 10 _ (.head _)) (by (first | exact ar129 | lia)) (by (first | exact ar144 | lia)) fun way tw2 v2 h3 tk3 P2 DS2 y0 yl => ?_
  refine Z1.backCK F3 N3 (hcn _ (.head _)) P2 (Mine.all1 (by first | exact fpK | exact fpS | exact fpC | exact fpR | exact fpSn | exact fpGt)) (by first | exact Mine.nin1 (S1.F.DS.alive) | exact Mine.all1 (S1.F.DS.alive) | simpa using S1.F.DS.alive) ?_
  intro own2 mm_ Z2  F4  N4
  (try (refine Mine.wp_let ?_; intro sQ30_))
  have S2 := S1.take P2.keeps DS2
  refine Mine.byv fun P_ kP_ => ?_
  obtain ⟨t1, t2, t3, t4, t5, I2⟩ := S2.F.I
  refine kP_ ?_
  clear kP_ P_
  have hi : i < B.kl.length := by (first | exact ar256 wl | lia)
  have hik : i < B.kn.length := N0.kll ▸ hi
  obtain ⟨l, h1⟩ : ∃ l, B.kl[i]? = some l := ⟨_, List.getElem?_eq_getElem hi⟩
  obtain ⟨sp, h2'⟩ : ∃ sp, B.kn[i]? = some sp := ⟨_, List.getElem?_eq_getElem hik⟩
  have hsp := N0.spLen (by (first | exact ar7 ht | lia)) h2'
  (try clear F2); (try clear N2); (try clear F3); (try clear N3)
  k_steps
  · have F5 := ‹Fr g L _ _›
    have N5 := News.pick (l := _ :: own2) ‹News g L _ (_ :: _ :: own2)› fun p hp => .tail _ hp
    refine take_call X0 T0 Z2.H (Z2.sub F5 N5 fun _ h => .tail _ h) (Mine.room hdp) (Mine.room hun) S2.F.DS (S2.G.off 10 _ (.head _)) (by (first | exact ar126 | lia)) (by (first | exact ar136 | lia)) fun num tn v3 h4 tk4 P3 DS3 n0 nl => ?_
    refine Z2.backCK F5 N5 (hcn _ (.head _)) P3 (Mine.all1 (by first | exact fpK | exact fpS | exact fpC | exact fpR | exact fpSn | exact fpGt)) (by first | exact Mine.nin1 (S2.F.DS.alive) | exact Mine.all1 (S2.F.DS.alive) | simpa using S2.F.DS.alive) ?_
    intro own3 mm_ Z3  F6  N6
    (try (refine Mine.wp_let ?_; intro sQ31_))
    have S3 := S2.take P3.keeps DS3
    (try clear F4); (try clear N4); (try clear F5); (try clear N5)
    iterate 52 walk1
    rename Fr g L _ _ => F7
    have N7 := News.swap7 ‹News g L _ (_ :: _ :: _ :: _ :: _ :: _ :: _ :: _ :: own3)›
    refine Z3.growK (news := _ :: _ :: _ :: _ :: _ :: _ :: _ :: own3) F7 (News.pick N7 fun p hp => .tail _ hp) (fun p hp => by repeat (first | exact hp | refine List.Mem.tail _ ?_)) fun v4  Z4  k4  k4h  kn4 => ?_
    have S4 := S3.up k4
    have M4 : Menu v4 [_, _, _, _, _, _] := Menu.cons (ns := []) .nil (by decide) (kn4 _ (.tail _ (.tail _ (.tail _ (.tail _ (.tail _ (.tail _ (.head _)))))))) (Menu.cons (ns := [0]) (.cons _ _ .nil) (by decide) (kn4 _ (.tail _ (.tail _ (.tail _ (.tail _ (.tail _ (.head _))))))) (Menu.cons (ns := [1]) (.cons _ _ .nil) (by decide) (kn4 _ (.tail _ (.tail _ (.tail _ (.tail _ (.head _)))))) (Menu.cons (ns := [0, 1]) (.cons _ _ (.cons _ _ .nil)) (by decide) (kn4 _ (.tail _ (.tail _ (.tail _ (.head _))))) (Menu.cons (ns := [0, 2]) (.cons _ _ (.cons _ _ .nil)) (by decide) (kn4 _ (.tail _ (.tail _ (.head _)))) (Menu.cons (ns := [0, 1]) (.cons _ _ (.cons _ _ .nil)) (by decide) (kn4 _ (.tail _ (.head _))) (Menu.nil _))))))
    have hA4 := kn4 _ (.head _)
    have hAS := src_ne S4.F.DS hA4 (by first | exact nin_nil | exact all_nil | ((repeat (first | exact .head _ | refine .tail _ ?_)); done) | simp)
    (try clear F6); (try clear N6)
    refine one_call (vs := [_, _, _, _, _, _]) X0 T0 Z4.H k4h (Mine.room hdp) (Mine.room hun) S4.F.DS (S4.G.off 10 _ (.head _)) hA4 hAS (by first | exact nin_nil | exact all_nil | ((repeat (first | exact .head _ | refine .tail _ ?_)); done) | simp) (by first | exact nin_nil | exact all_nil | ((repeat (first | exact .head _ | refine .tail _ ?_)); done) | simp) fun r1 x1 v5 h5 tk5 P5 DS5 hx1 => ?_
    refine Z4.backCK F7 N7 (hcn _ (.head _)) P5 (Mine.all1 (by first | exact fpK | exact fpS | exact fpC | exact fpR | exact fpSn | exact fpGt)) (by first | exact Mine.nin1 (S4.F.DS.alive) | exact Mine.all1 (S4.F.DS.alive) | simpa using S4.F.DS.alive) ?_
    intro own5 mm_ Z5  F8  N8
    (try (refine Mine.wp_let ?_; intro sQ32_))
    have S5 := S4.take P5.keeps DS5
    obtain ⟨path, hpath, hpl⟩ := M4 x1 (List.mem_of_getElem? hx1)
    have hpath := hpath.keeps P5.keeps S4.F.DS.noTup
    (try clear F7); (try clear N7)
    iterate 33 walk1
    rename Fr g L _ _ => F9
    have N9 := News.swap2 ‹News g L _ (_ :: _ :: _ :: own5)›
    refine Z5.growK (news := _ :: _ :: own5) F9 (News.pick N9 fun p hp => .tail _ hp) (fun p hp => by repeat (first | exact hp | refine List.Mem.tail _ ?_)) fun v6  Z6  k6  k6h  kn6 => ?_
    have S6 := S5.up k6
    have hA6 := kn6 _ (.head _)
    have hlv6 : DatH v6 _ (locD num path) := DatH.tuple (n := 0) (vs := [_, _]) (kn6 _ (.tail _ (.head _))) (DatsH.cons (DatH.int _ num _) (DatsH.cons (hpath.up k6) (DatsH.nil _)))
    have hAS6 := src_neS S6.F.DS hA6 (by first | exact nin_nil | exact all_nil | ((repeat (first | exact .head _ | refine .tail _ ?_)); done) | simp)
    (try clear F8); (try clear N8)
    refine one_call (vs := [_, _]) X0 T0 Z6.H k6h (Mine.room hdp) (Mine.room hun) S6.F.DS (S6.G.off 10 _ (.head _)) hA6 hAS6 (by first | exact nin_nil | exact all_nil | ((repeat (first | exact .head _ | refine .tail _ ?_)); done) | simp) (by first | exact nin_nil | exact all_nil | ((repeat (first | exact .head _ | refine .tail _ ?_)); done) | simp) fun r2 x2 v7 h7 tk7 P7 DS7 hx2 => ?_
    refine Z6.backCK F9 N9 (hcn _ (.head _)) P7 (Mine.all1 (by first | exact fpK | exact fpS | exact fpC | exact fpR | exact fpSn | exact fpGt)) (by first | exact Mine.nin1 (S6.F.DS.alive) | exact Mine.all1 (S6.F.DS.alive) | simpa using S6.F.DS.alive) ?_
    intro own7 mm_ Z7  F10  N10
    (try (refine Mine.wp_let ?_; intro sQ33_))
    have S7 := S6.take P7.keeps DS7
    have hlv7 := hlv6.keeps P7.keeps S6.F.DS.noTup
    obtain ⟨word, tw7, rfl, hw⟩ : ∃ word tw, x2 = .str word tw ∧ (word = readW ∨ word = writeW) := by
      have := List.mem_of_getElem? hx2
      simp only [List.mem_cons, List.not_mem_nil, or_false] at this
      rcases this with rfl | rfl
      · exact ⟨_, _, rfl, .inl rfl⟩
      · exact ⟨_, _, rfl, .inr rfl⟩
    (try clear F9); (try clear N9)
    (try dsimp only at F10 N10 hlv7 ⊢)
    iterate 4 walk1
    rename Fr g L _ _ => F11
    rename News g L _ (_ :: own7) => N11
    have V7 := Z7.sub F11 N11 fun _ h => .tail _ h
    refine Mine.byv fun P_ kP_ => ?_
    obtain ⟨u1, u2, u3, u4, u5, I7⟩ := S7.F.I
    refine kP_ ?_
    clear kP_ P_
    have htt : t * t ≤ 17 * t := Nat.mul_le_mul_right _ ht
    have hrl := N0.rl
    refine law_access (k := cc B.cm i i) X0 T0 Z7.H V7 (Mine.room hdp) (Mine.room hun) I7 (kl := B.kl) (by have := S7.G.nd.sel (sel := [0, 1, 2, 5, 6, 7, 8, 11, 13]) (by decide); simpa [Sel, gsOf] using this) (fun x hx => S7.fpOff x (fp_acc _ hx)) hw hlv7 S7.F.DC (N0.cAt hi) (N0.cOk hi) S7.F.DR S7.F.DP (fun d hd => (N0.rw d hd).ok) (by (first | exact ar71 hpl | lia)) (by (first | exact ar233 ht | lia)) N0.bd (by (first | exact ar231 ht | lia)) (by rw [Nat.mul_assoc]; lia) S7.F.DK h1 h2' (by (first | exact ar3 hsp | lia)) (N0.inv.pos i hi) (N0.inv.own i sp h2') S7.F.DSn (by have := N0.sl; (first | exact ar311 ht this | lia)) (fun r hr => by
      refine Mine.byv fun P_ kP_ => ?_
      obtain ⟨_, _, _, hrw, _⟩ := N0.inv.sok r hr
      refine kP_ ?_
      clear kP_ P_
      exact ⟨hrw, N0.sp r hr⟩) fun r ps' rs' v8 h8 tk8 P8 Lk DSn8 Lr hr => ?_
    refine Z7.backCK F11 N11 (hcn _ (.head _)) P8 fp_acc (fun a ha => S7.fpAlive a (fp_acc _ ha)) ?_
    intro own8 mm_ Z8  F12  N12
    (try (refine Mine.wp_let ?_; intro sQ34_))
    have S8 := S7.accessed V7 (Z7.H.trans V7) P8.keeps Lk DSn8
    have hr0 := Z7.dead F11 N11 (fun _ h => .tail _ h) S7.fpAlive hr
    obtain ⟨N8', hmem⟩ := N0.access (by (first | exact ar7 ht | lia)) h2' hw (by (first | exact ar71 hpl | lia)) Lk
    (try clear F10); (try clear N10); (try clear F11); (try clear N11)
    k_steps
    (try k_steps)
    show Q (.ref r) _
    (try k_steps)
    exact ret r _ _ v8 _ _ (Z8.post ‹_› (News.pick ‹News g L _ (_ :: own8)› fun p hp => .tail _ hp)) (S8.mono (by (first | exact ar230 ht | lia)) (by (first | exact ar62 | lia))) N8' Lr hmem (by rw [List.length_map]; have := List.length_filter_le (accT i word num path sp) B.seen; have := N0.sl; (first | exact ar375 ht (by assumption) this | lia)) (.inl rfl) (fun _ h => .inl h) hr0
  · have F5 := ‹Fr g L _ _›
    have N5 := News.pick (l := _ :: own2) ‹News g L _ (_ :: _ :: own2)› fun p hp => .tail _ hp
    (try clear F4); (try clear N4)
    have hg := N0.gk.short
    have hci := (N0.cOk hi).short
    refine leave_call X0 T0 Z2.H (Z2.sub F5 N5 fun _ h => .tail _ h) (Mine.room hdp) (Mine.room hun) I2 (ne1 (S2.G.nd.2 0 2 (by decide) _ (.head _))) (ne1 (S2.G.nd.2 1 2 (by decide) _ (.head _))) (ne1 (S2.G.nd.2 0 4 (by decide) _ (.head _))) (ne1 (S2.G.nd.2 1 4 (by decide) _ (.head _))) (S2.G.off 2 _ (.head _)) (S2.G.off 4 _ (.head _)) S2.F.DC S2.F.DG (ne1 (S2.G.nd.2 4 2 (by decide) _ (.head _))) (by (first | exact ar69 ht | lia)) (by (first | exact ar70 ht | lia)) (by (first | exact ar90 hg hci | lia)) fun c gc v3 h4 tk4 P3 DC3 DG3 hpc hpg => ?_
    refine Z2.backCK F5 N5 (hcn _ (.head _)) P3 (Mine.all_cons (by first | exact fpC | exact fpG) (Mine.all1 (by first | exact fpC | exact fpG))) (Mine.all_cons (S2.fpAlive _ (by first | exact fpC | exact fpG)) (Mine.all1 (S2.fpAlive _ (by first | exact fpC | exact fpG)))) ?_
    intro own3 mm_ Z3  F6  N6
    (try (refine Mine.wp_let ?_; intro sQ35_))
    have S3 := S2.clocksG P3.keeps (Nat.le_succ t) DC3 DG3
    (try clear F5); (try clear N5)
    iterate 12 walk1
    rename Fr g L _ _ => F7
    rename News g L _ (_ :: own3) => N7
    have V3 := Z3.sub F7 N7 fun _ h => .tail _ h
    refine law_told X0 T0 Z3.H V3 (Mine.room hdp) (Mine.room hun) S3.F.DK (S3.G.off 7 _ (.head _)) (S3.G.nd.2 7 13 (by decide) _ (.head _)) h1 h2' (by (first | exact ar3 hsp | lia)) (by show B.kl.length ≤ 10; (first | exact ar5 hkl4 | lia)) fun r D v4 h5 tk5 P4 DK4 Lr hr hD => ?_
    refine Z3.backCK F7 N7 (hcn _ (.head _)) P4 (Mine.all1 (by first | exact fpK | exact fpS | exact fpC | exact fpR | exact fpSn | exact fpGt)) (Mine.all1 (S3.fpAlive _ (by first | exact fpK | exact fpS | exact fpC | exact fpR | exact fpSn | exact fpGt))) ?_
    intro own4 mm_ Z4  F8  N8
    (try (refine Mine.wp_let ?_; intro sQ36_))
    have S4 := S3.know V3 (Z3.H.trans V3) P4.keeps DK4 hD
    have hkl : ∀ a ∈ B.kl.set i D, a ∈ B.kl ∨ s.heap.get? a = none := klSet (fun _ h => .inl h) (Z3.dead F7 N7 (fun _ h => .tail _ h) S3.fpAlive hD)
    have Nn := N0.leave h2' (tick_spec (N0.cOk hi) (by (first | exact ar89 hkl4 wl | lia)) hpc) (joinL_spec N0.gk (N0.cOk hi) hpg) (kl' := B.kl.set i D) (by first | exact nin_nil | exact all_nil | ((repeat (first | exact .head _ | refine .tail _ ?_)); done) | simp)
    (try clear F6); (try clear N6); (try clear F7); (try clear N7)
    iterate 6 walk1
    refine Mine.byv fun P_ kP_ => ?_
    obtain ⟨gvs, gn, hgl, hgd⟩ := S4.F.DGt
    obtain ⟨rvs, rn, hrl, hrd⟩ := Lr
    refine kP_ ?_
    clear kP_ P_
    have hgl0 := N0.gLen (by (first | exact ar7 ht | lia))
    have lg : gvs.length = B.gates.length := by simpa using hgd.length
    have lr : rvs.length = sp.length := by simpa using hrd.length
    rename Fr g L _ _ => F9
    rename News g L _ (_ :: own4) => N9
    refine list_extend_method hgl (Z4.sub F9 N9 fun _ h => .tail _ h) ?_
    iterate 2 walk1
    k_dflt (refine LCt.ListComp_T (F₀ := by k_asm) (by with_unfolding_all rfl) (by decide) (by rfl) (by decide) (by rfl) ?_)
    walk1
    rename Fr g L _ _ => F10
    rename News g L _ (_ :: own4) => N10
    (try clear F8); (try clear N8)
    refine comp_dat rfl Z4 F10 N10 (fun _ h => .tail _ h) hrl hrd (by (first | exact ar310 hsp lr | lia)) (newS B.gates) ?test ?item ?fin
    case test =>
      intro d hdm a Ia oI C oC D2 m₂ ys h' tk' E' hda hC hx F' N' off' ne'
      simp only [LCg.Off3] at off'
      have V' := Z4.sub F' N' (fun p hp => by repeat (first | exact hp | refine List.Mem.tail _ ?_))
      obtain ⟨q, hq, rfl⟩ := List.mem_map.mp hdm
      have okd := spans_ok _ hdm
      (try dsimp only)
      iterate 3 walk1
      refine notIn_list (V' _ _ hgl) (hgd.up V') (hda.up V') spans_ok okd (Mine.room hun) fun b hb => ?_
      have e : b = newS B.gates (spanD q) := by
        rw [newS_span]
        have hb : b = true ↔ spanD q ∉ B.gates.map spanD := hb
        rw [spanD_mem] at hb
        cases b
        · exact (decide_eq_false fun q => by have := hb.mpr q; cases this).symm
        · exact (decide_eq_true (hb.mp rfl)).symm
      subst e
      k_steps
    case item =>
      intro a Ia oI C oC D2 m₂ ys h' tk' E' hC hx F' N' off' ne'
      simp only [LCg.Off3] at off'
      (try dsimp only)
      k_steps
    intro D2 h6' tk6' ys F11 N11 hys hyl
    (try clear F9); (try clear N9); (try clear F10); (try clear N10)
    (try dsimp only)
    walk1
    rename Fr g L _ _ => F12
    rename News g L _ _ => N12
    have N12c := News.swap1 N12
    refine list_extend_post (ys := ys) hgl (Z4.sub F12 N12c fun _ h => .tail _ (.tail _ h)) (N12 _ (.head _)).1 (by (first | exact ar445 hsp hgl0 lg lr hyl | lia)) fun v5 h7 k7 P5 hg5 => ?_
    refine Z4.backCK F12 (News.pick N12 fun p hp => .tail _ hp) (hcn _ (.head _)) P5 (Mine.all1 (by first | exact fpK | exact fpS | exact fpC | exact fpR | exact fpSn | exact fpGt)) (Mine.all1 (S4.fpAlive _ (by first | exact fpK | exact fpS | exact fpC | exact fpR | exact fpSn | exact fpGt))) ?_
    intro own5 mm_ Z5  F13  N13
    (try (refine Mine.wp_let ?_; intro sQ37_))
    have S5 := S4.gated (gates' := moreS B.gates sp) P5.keeps ⟨_, _, hg5, by
      unfold moreS
      rw [List.map_append, ← more_filter]
      exact (hgd.append hys).keeps P5.keeps S4.F.DGt.noTup⟩
    (try clear F11); (try clear N11); (try clear F12); (try clear N12)
    k_steps
    rename Fr g L _ _ => F14
    have N14 := News.swap1 ‹News g L _ (_ :: _ :: own5)›
    refine Z5.growK (news := _ :: own5) F14 (News.pick N14 fun p hp => .tail _ hp) (fun p hp => .tail _ hp) fun v16  Z16  k16  k16h  kn16 => ?_
    (try k_steps)
    refine ret _ [] _ v16 _ _ (Z16.post F14 (News.pick N14 fun p hp => .tail _ hp)) ((S5.up k16).mono (by (first | exact ar60 | lia)) (by (first | exact ar203 | lia))) Nn ⟨[], 0, kn16 _ (.head _), DatsH.nil _⟩ (fun d => ⟨.inl, fun h => h.elim id fun h => by cases h⟩) (by first | exact nin_nil | exact all_nil | ((repeat (first | exact .head _ | refine .tail _ ?_)); done) | simp) (.inl rfl) hkl (Heap.get?_none_of_le ?_)
    exact Nat.le_trans hsz (Nat.le_of_lt (Nat.lt_trans (Nat.lt_succ_self _) (‹_ ∧ AllLt _ own5›).1))
  · have F5 := ‹Fr g L _ _›
    have N5 := News.pick (l := _ :: own2) ‹News g L _ (_ :: _ :: own2)› fun p hp => .tail _ hp
    (try clear F4); (try clear N4)
    have hg := N0.gk.short
    have hci := (N0.cOk hi).short
    refine enter_call X0 T0 Z2.H (Z2.sub F5 N5 fun _ h => .tail _ h) (Mine.room hdp) (Mine.room hun) I2 (ne1 (S2.G.nd.2 0 2 (by decide) _ (.head _))) (ne1 (S2.G.nd.2 1 2 (by decide) _ (.head _))) (S2.G.off 2 _ (.head _)) S2.F.DC S2.F.DG (ne1 (S2.G.nd.2 4 2 (by decide) _ (.head _))) (by (first | exact ar69 ht | lia)) (by (first | exact ar90 hg hci | lia)) fun c v3 h4 tk4 P3 DC3 hpc => ?_
    refine Z2.backCK F5 N5 (hcn _ (.head _)) P3 (Mine.all1 (by first | exact fpK | exact fpS | exact fpC | exact fpR | exact fpSn | exact fpGt)) (Mine.all1 (S2.fpAlive _ (by first | exact fpK | exact fpS | exact fpC | exact fpR | exact fpSn | exact fpGt))) ?_
    intro own3 mm_ Z3  F6  N6
    (try (refine Mine.wp_let ?_; intro sQ38_))
    have S3 := S2.clocks P3.keeps DC3
    (try clear F5); (try clear N5)
    iterate 14 walk1
    rename Fr g L _ _ => F7
    rename News g L _ (_ :: own3) => N7
    have V3 := Z3.sub F7 N7 fun _ h => .tail _ h
    have hgl0 := N0.gLen (by (first | exact ar7 ht | lia))
    refine law_learn X0 T0 Z3.H V3 (Mine.room hdp) (Mine.room hun) S3.F.DK (S3.G.off 7 _ (.head _)) (S3.G.nd.2 7 13 (by decide) _ (.head _)) h1 h2' (by (first | exact ar3 hsp | lia)) S3.F.DGt (by show B.gates.length ≤ 1000; (first | exact ar3 hgl0 | lia)) (by show B.kl.length ≤ 10; (first | exact ar5 hkl4 | lia)) fun D v4 h5 tk5 P4 DK4 hD => ?_
    refine Z3.backCK F7 N7 (hcn _ (.head _)) P4 (Mine.all1 (by first | exact fpK | exact fpS | exact fpC | exact fpR | exact fpSn | exact fpGt)) (Mine.all1 (S3.fpAlive _ (by first | exact fpK | exact fpS | exact fpC | exact fpR | exact fpSn | exact fpGt))) ?_
    intro own4 mm_ Z4  F8  N8
    (try (refine Mine.wp_let ?_; intro sQ39_))
    have S4 := S3.know V3 (Z3.H.trans V3) P4.keeps DK4 hD
    have hkl : ∀ a ∈ B.kl.set i D, a ∈ B.kl ∨ s.heap.get? a = none := klSet (fun _ h => .inl h) (Z3.dead F7 N7 (fun _ h => .tail _ h) S3.fpAlive hD)
    have Nn := N0.enter h2' (joinL_spec (N0.cOk hi) N0.gk hpc) (kl' := B.kl.set i D) (by first | exact nin_nil | exact all_nil | ((repeat (first | exact .head _ | refine .tail _ ?_)); done) | simp)
    (try clear F6); (try clear N6); (try clear F7); (try clear N7)
    k_steps
    rename Fr g L _ _ => F14
    have N14 := News.swap1 ‹News g L _ (_ :: _ :: own4)›
    refine Z4.growK (news := _ :: own4) F14 (News.pick N14 fun p hp => .tail _ hp) (fun p hp => .tail _ hp) fun v16  Z16  k16  k16h  kn16 => ?_
    (try k_steps)
    refine ret _ [] _ v16 _ _ (Z16.post F14 (News.pick N14 fun p hp => .tail _ hp)) ((S4.up k16).mono (by (first | exact ar60 | lia)) (by (first | exact ar201 | lia))) Nn ⟨[], 0, kn16 _ (.head _), DatsH.nil _⟩ (fun d => ⟨.inl, fun h => h.elim id fun h => by cases h⟩) (by first | exact nin_nil | exact all_nil | ((repeat (first | exact .head _ | refine .tail _ ?_)); done) | simp) (.inl rfl) hkl (Heap.get?_none_of_le ?_)
    exact Nat.le_trans hsz (Nat.le_of_lt (Nat.lt_trans (Nat.lt_succ_self _) (‹_ ∧ AllLt _ own4›).1))
  · have F5 := ‹Fr g L _ _›
    have N5 := News.pick (l := _ :: own2) ‹News g L _ (_ :: _ :: own2)› fun p hp => .tail _ hp
    (try clear F4); (try clear N4)
    refine known_len S2.F.DK (Z2.sub F5 N5 fun _ h => .tail _ h) (by (first | exact ar27 hkl4 | lia)) ?_
    iterate 17 walk1
    have hmod : ((i : Int) + 1).fmod (B.kl.length : Int) = if (i : Int) + 1 < B.kl.length then (i : Int) + 1 else 0 := by
      rw [Int.fmod_eq_emod_of_nonneg _ (by (first | exact ar190 | lia))]
      split
      · exact Int.emod_eq_of_lt (by (first | exact ar191 | lia)) (by (first | exact ar254 (by assumption) | lia))
      · have : (i : Int) + 1 = B.kl.length := by lia
        rw [this]; exact Int.emod_self
    obtain ⟨o, ho, hol, hoi⟩ : ∃ o : Nat, ((i : Int) + 1).fmod (B.kl.length : Int) = (o : Int) ∧ o < B.kl.length ∧ i ≠ o := by
      by_cases q : (i : Int) + 1 < B.kl.length
      · exact ⟨i + 1, by rw [hmod, if_pos q]; rfl, by (first | exact ar255 q | lia), by (first | exact ar199 | lia)⟩
      · exact ⟨0, by rw [hmod, if_neg q]; rfl, by (first | exact ar217 hkl1 | lia), by (first | exact ar263 hkl1 q | lia)⟩
    have hok : o < B.kn.length := N0.kll ▸ hol
    obtain ⟨lo, g1⟩ : ∃ l, B.kl[o]? = some l := ⟨_, List.getElem?_eq_getElem hol⟩
    obtain ⟨sq, g2⟩ : ∃ sp, B.kn[o]? = some sp := ⟨_, List.getElem?_eq_getElem hok⟩
    have hsq := N0.spLen (by (first | exact ar7 ht | lia)) g2
    rename Fr g L _ _ => F6
    rename News g L _ (_ :: own2) => N6
    rw [ho] at F6 ⊢
    (try clear F5); (try clear N5)
    have V2 := Z2.sub F6 N6 fun _ h => .tail _ h
    have ndl : (A.W :: A.d :: A.C :: A.Ln :: lineAll B.lp).Nodup := by
      have := S2.G.nd.sel (sel := [0, 1, 2, 3, 12]) (by decide)
      simpa [Sel, gsOf] using this
    have subl : ∀ a ∈ [A.C, A.Ln] ++ fpOf B.lp, a ∈ fpAll A B := fun a ha => by
      simp only [fpAll, List.mem_append, List.mem_cons, List.not_mem_nil, or_false] at ha ⊢
      rcases ha with (q | q) | q <;> simp [q]
    refine hand_call X0 T0 Z2.H V2 (Mine.room hdp) (Mine.room hun) I2 S2.F.DC S2.F.DL (by (first | exact ar232 ht | lia)) (by (first | exact ar70 ht | lia)) ndl (fun x hx => S2.fpOff x (subl x hx)) (by (first | exact ar89 hkl4 wl | lia)) (by lia) (fun q => hoi (Int.ofNat_inj.mp q)) (N0.cOk hi) (N0.cOk hol) fun c3 c4 la v3 h4 tk4 P3 DC3 DL3 ndl3 hnew h3c h4c => ?_
    refine Z2.backCK F6 N6 (hcn _ (.head _)) P3 subl (fun a ha => S2.fpAlive a (subl a ha)) ?_
    intro own3 mm_ Z3  F7  N7
    (try (refine Mine.wp_let ?_; intro sQ40_))
    have hlp : some la = B.lp ∨ (B.lp = none ∧ ∀ x ∈ lineAll (some la), s.heap.get? x = none) := hnew.imp Eq.symm fun q => ⟨q.1, fun x hx => Z2.dead F6 N6 (fun _ h => .tail _ h) S2.fpAlive (q.2 x hx)⟩
    have S3 := S2.handed V2 (Z2.H.trans V2) P3.keeps DC3 DL3 (by
      have := ndl3
      simp only [List.nodup_cons] at this
      exact this.2.2.2.2) hnew
    (try clear F6); (try clear N6)
    iterate 14 walk1
    rename Fr g L _ _ => F8
    rename News g L _ (_ :: own3) => N8
    have V3 := Z3.sub F8 N8 fun _ h => .tail _ h
    have subK : ∀ a ∈ [A.K], a ∈ fpAll A B := (Mine.all1 (by first | exact fpK | exact fpS | exact fpC | exact fpR | exact fpSn | exact fpGt))
    have subK3 : ∀ a ∈ [A.K], a ∈ fpAll A { B with cm := upd (upd B.cm i c3) o c4, lp := some la } := (Mine.all1 (by first | exact fpK | exact fpS | exact fpC | exact fpR | exact fpSn | exact fpGt))
    refine law_told X0 T0 Z3.H V3 (Mine.room hdp) (Mine.room hun) S3.F.DK (S3.G.off 7 _ (.head _)) (S3.G.nd.2 7 13 (by decide) _ (.head _)) h1 h2' (by (first | exact ar3 hsp | lia)) (by show B.kl.length ≤ 10; (first | exact ar5 hkl4 | lia)) fun r1 D1 v4 h5 tk5 P4 DK4 Lr1 hr1 hD1 => ?_
    refine Z3.backCK F8 N8 (hcn _ (.head _)) P4 subK (fun a ha => S3.fpAlive a (subK3 a ha)) ?_
    intro own4 mm_ Z4  F9  N9
    (try (refine Mine.wp_let ?_; intro sQ41_))
    have S4 := S3.know V3 (Z3.H.trans V3) P4.keeps DK4 hD1
    have subB : ∀ a ∈ fpAll A B, a ∈ fpAll A { B with lp := some la } := fun a ha => by
      show a ∈ _ ++ allOf B.ps ++ fpOf (some la)
      rcases List.mem_append.mp ha with ha | ha
      · exact List.mem_append_left _ ha
      · rcases hnew with q | ⟨q, _⟩
        · rw [← q]; exact List.mem_append_right _ ha
        · rw [q] at ha; cases ha
    have hkl := klSet (kl0 := B.kl) (kl := B.kl) (i := i) (fun _ h => .inl h) (Z3.dead F8 N8 (fun _ h => .tail _ h) (fun a ha => S3.fpAlive a (subB a ha)) hD1)
    (try clear F7); (try clear N7); (try clear F8); (try clear N8)
    iterate 10 walk1
    rename Fr g L _ _ => F10
    rename News g L _ (_ :: own4) => N10
    have V4 := Z4.sub F10 N10 fun _ h => .tail _ h
    refine law_told X0 T0 Z4.H V4 (Mine.room hdp) (Mine.room hun) S4.F.DK (S4.G.off 7 _ (.head _)) (S4.G.nd.2 7 13 (by decide) _ (.head _)) (by show (B.kl.set i D1)[o]? = _; rw [List.getElem?_set_ne hoi]; exact g1) (by rw [List.getElem?_set_ne hoi]; exact g2) (by (first | exact ar3 hsq | lia)) (by show (B.kl.set i D1).length ≤ 10; rw [List.length_set]; (first | exact ar5 hkl4 | lia)) fun r2 D2 v5 h6 tk6 P5 DK5 Lr2 hr2 hD2 => ?_
    refine Z4.backCK F10 N10 (hcn _ (.head _)) P5 subK (Mine.all1 (S4.fpAlive _ (by first | exact fpK | exact fpS | exact fpC | exact fpR | exact fpSn | exact fpGt))) ?_
    intro own5 mm_ Z5  F11  N11
    (try (refine Mine.wp_let ?_; intro sQ42_))
    have S5 := S4.know V4 (Z4.H.trans V4) P5.keeps DK5 hD2
    have hkl := klSet (i := o) hkl (Z4.dead F10 N10 (fun _ h => .tail _ h) (fun a ha => S4.fpAlive a (subB a ha)) hD2)
    have Lr1 := Lr1.keeps P5.keeps (fun q => by
      refine Mine.byv fun P_ kP_ => ?_
      obtain ⟨_, _, e, _⟩ := Lr1
      refine kP_ ?_
      clear kP_ P_
      exact S4.F.DK.ne e rfl (List.mem_singleton.mp q)) S4.F.DK.noTup
    (try clear F9); (try clear N9); (try clear F10); (try clear N10)
    iterate 24 walk1
    rename Fr g L _ _ => F12
    have N12 := News.pick (l := _ :: own5) ‹News g L _ (_ :: _ :: own5)› fun p hp => .tail _ hp
    have V5 := Z5.sub F12 N12 fun _ h => .tail _ h
    refine law_learn X0 T0 Z5.H V5 (Mine.room hdp) (Mine.room hun) S5.F.DK (S5.G.off 7 _ (.head _)) (S5.G.nd.2 7 13 (by decide) _ (.head _)) (l := D1) (by show ((B.kl.set i D1).set o D2)[i]? = _; rw [List.getElem?_set_ne (Ne.symm hoi), List.getElem?_set_self hi]) (by rw [List.getElem?_set_ne (Ne.symm hoi), List.getElem?_set_self hik]) (by simp; (first | exact ar68 hsp | lia)) Lr2 (by (first | exact ar3 hsq | lia)) (by show ((B.kl.set i D1).set o D2).length ≤ 10; rw [List.length_set, List.length_set]; (first | exact ar5 hkl4 | lia)) fun D3 v6 h7 tk7 P6 DK6 hD3 => ?_
    refine Z5.backCK F12 N12 (hcn _ (.head _)) P6 subK (Mine.all1 (S5.fpAlive _ (by first | exact fpK | exact fpS | exact fpC | exact fpR | exact fpSn | exact fpGt))) ?_
    intro own6 mm_ Z6  F13  N13
    (try (refine Mine.wp_let ?_; intro sQ43_))
    have S6 := S5.know V5 (Z5.H.trans V5) P6.keeps DK6 hD3
    have hkl := klSet (i := i) hkl (Z5.dead F12 N12 (fun _ h => .tail _ h) (fun a ha => S5.fpAlive a (subB a ha)) hD3)
    have Lr1 := Lr1.keeps P6.keeps (fun q => by
      refine Mine.byv fun P_ kP_ => ?_
      obtain ⟨_, _, e, _⟩ := Lr1
      refine kP_ ?_
      clear kP_ P_
      exact S5.F.DK.ne e rfl (List.mem_singleton.mp q)) S5.F.DK.noTup
    (try clear F11); (try clear N11); (try clear F12); (try clear N12)
    iterate 14 walk1
    rename Fr g L _ _ => F14
    rename News g L _ (_ :: own6) => N14
    have V6 := Z6.sub F14 N14 fun _ h => .tail _ h
    refine law_learn X0 T0 Z6.H V6 (Mine.room hdp) (Mine.room hun) S6.F.DK (S6.G.off 7 _ (.head _)) (S6.G.nd.2 7 13 (by decide) _ (.head _)) (l := D2) (by show (((B.kl.set i D1).set o D2).set i D3)[o]? = _; rw [List.getElem?_set_ne hoi, List.getElem?_set_self (by first | exact Mine.nin1 (hol) | exact Mine.all1 (hol) | simpa using hol)]) (by rw [List.getElem?_set_ne hoi, List.getElem?_set_self (by first | exact Mine.nin1 (hok) | exact Mine.all1 (hok) | simpa using hok)]) (by simp; (first | exact ar68 hsq | lia)) Lr1 (by (first | exact ar3 hsp | lia)) (by show (((B.kl.set i D1).set o D2).set i D3).length ≤ 10; rw [List.length_set, List.length_set, List.length_set]; (first | exact ar5 hkl4 | lia)) fun D4 v7 h8 tk8 P7 DK7 hD4 => ?_
    refine Z6.backCK F14 N14 (hcn _ (.head _)) P7 subK (Mine.all1 (S6.fpAlive _ (by first | exact fpK | exact fpS | exact fpC | exact fpR | exact fpSn | exact fpGt))) ?_
    intro own7 mm_ Z7  F15  N15
    (try (refine Mine.wp_let ?_; intro sQ44_))
    have S7 := S6.know V6 (Z6.H.trans V6) P7.keeps DK7 hD4
    have hkl := klSet (i := o) (kl0 := B.kl) hkl (Z6.dead F14 N14 (fun _ h => .tail _ h) (fun a ha => S6.fpAlive a (subB a ha)) hD4)
    have Nn := N0.hand hoi h2' g2 h3c h4c (kl' := (((B.kl.set i D1).set o D2).set i D3).set o D4) (by first | exact nin_nil | exact all_nil | ((repeat (first | exact .head _ | refine .tail _ ?_)); done) | simp) (lp' := some la)
    (try clear F13); (try clear N13); (try clear F14); (try clear N14)
    k_steps
    rename Fr g L _ _ => F14
    have N14 := News.swap1 ‹News g L _ (_ :: _ :: own7)›
    refine Z7.growK (news := _ :: own7) F14 (News.pick N14 fun p hp => .tail _ hp) (fun p hp => .tail _ hp) fun v16  Z16  k16  k16h  kn16 => ?_
    (try k_steps)
    refine ret _ [] _ v16 _ _ (Z16.post F14 (News.pick N14 fun p hp => .tail _ hp)) ((S7.up k16).mono (by (first | exact ar193 | lia)) (by (first | exact ar62 | lia))) Nn ⟨[], 0, kn16 _ (.head _), DatsH.nil _⟩ (fun d => ⟨.inl, fun h => h.elim id fun h => by cases h⟩) (by first | exact nin_nil | exact all_nil | ((repeat (first | exact .head _ | refine .tail _ ?_)); done) | simp) hlp hkl (Heap.get?_none_of_le ?_)
    exact Nat.le_trans hsz (Nat.le_of_lt (Nat.lt_trans (Nat.lt_succ_self _) (‹_ ∧ AllLt _ own7›).1))
end
theorem loc_cmp (a b : Int) (p q : List Int) : Cmp (locD a p) (locD b q) := .tuple (.cons (.int _ _) (.cons (.tuple (cmpAll_ints p q)) (.nilL _)))
theorem word_cmp (a b : Int) {x y : Str} (hx : x = readW ∨ x = writeW) (hy : y = readW ∨ y = writeW) : Cmp (.tuple [.int a, .str x]) (.tuple [.int b, .str y]) := .tuple (.cons (.int _ _) (.cons (.word _ _ hx hy) (.nilL _)))
theorem IsRow.cmp {d e : Dat} (h : IsRow d) (k : IsRow e) : Cmp d e := by
  refine Mine.byv fun P_ kP_ => ?_
  obtain ⟨g, num, path, word, o, er, h1, h2, _, rfl⟩ := h
  obtain ⟨g', num', path', word', o', er', k1, k2, _, rfl⟩ := k
  refine kP_ ?_
  clear kP_ P_
  exact .tuple (.cons (loc_cmp _ _ _ _) (.cons (word_cmp _ _ h2 k2) (.cons (word_cmp _ _ h1 k1) (.nilL _))))
theorem rows_sortable {ds : List Dat} (h : ∀ d ∈ ds, IsRow d) : Sortable 8 ds := .inr ⟨fun d hd => (h d hd).ok, fun d hd => by
  refine Mine.byv fun P_ kP_ => ?_
  obtain ⟨g, num, path, word, o, er, _, _, _, rfl⟩ := h d hd
  refine kP_ ?_
  clear kP_ P_
  exact ⟨_, rfl⟩, fun d hd e he => (h d hd).cmp (h e he)⟩
theorem perm_mem {ds es : List Dat} (hn : ds.Nodup) (hm : es.Nodup) (h : ∀ d, d ∈ ds ↔ d ∈ es) : ds.Perm es := (List.perm_ext_iff_of_nodup hn hm).mpr h
theorem sorted_eq : ∀ {ds es : List Dat}, (∀ d ∈ ds, IsRow d) → ds.Perm es → (ds.map ky).Pairwise lle → (es.map ky).Pairwise lle → ds = es
  | [], es, _, p, _, _ => by rw [List.nil_perm.mp p]
  | d :: ds, [], _, p, _, _ => absurd p.symm (by first | exact nin_nil | exact all_nil | ((repeat (first | exact .head _ | refine .tail _ ?_)); done) | simp)
  | d :: ds, e :: es, h, p, s, t => by
    rw [List.map_cons, List.pairwise_cons] at s t
    have he : IsRow e := h e (p.mem_iff.mpr (.head _))
    have q : d = e := by
      have h1 : e = d ∨ e ∈ ds := List.mem_cons.mp (p.mem_iff.mpr (.head _))
      have h2 : d = e ∨ d ∈ es := List.mem_cons.mp (p.mem_iff.mp (.head _))
      rcases h1 with h1 | h1
      · exact h1.symm
      · rcases h2 with h2 | h2
        · exact h2
        · exact ky_inj ((h d (.head _)).cmp he) (lle_antisymm (s.1 _ (List.mem_map_of_mem h1)) (t.1 _ (List.mem_map_of_mem h2)))
    subst q
    rw [sorted_eq (fun x hx => h x (.tail _ hx)) p.cons_inv s.2 t.2]
section
variable {prog : Program} {w : World} {A : Around} {E : Value → Shared → Prop} {s : Shared} {a b l : Addr}
theorem eq_list {xs ys : List Value} {k k2 : Nat} {ds es : List Dat} {Q : Value → Shared → Prop} (ea : s.heap.get? a = some (PySem.W.listOf xs.toArray k)) (ha : DatsH s.heap xs ds) (eb : s.heap.get? b = some (PySem.W.listOf ys.toArray k2)) (hb : DatsH s.heap ys es) (oka : ∀ d ∈ ds, kqdOk 8 d = true) (okb : ∀ d ∈ es, kqdOk 8 d = true) (hu : A.units + 64 < cLine)
    (h : ∀ b : Bool, (b = true ↔ ds = es) → Q (.bool b) s) : wpAny (model prog w) A (compareOp .Eq (.ref a) (.ref b)) Q E s := by
  refine Mine.byv fun P_ kP_ => ?_
  obtain ⟨l1, a1, b1⟩ := ha
  obtain ⟨l2, a2, b2⟩ := hb
  refine kP_ ?_
  clear kP_ P_
  have N : News {} s.heap.objs.size s.heap ((a, PySem.W.listOf xs.toArray k) :: (b, PySem.W.listOf ys.toArray k2) :: (l1 ++ l2)) := fun p hp => by
    have e' : s.heap.get? p.1 = some p.2 := by
      rcases Mine.mem_sym hp with rfl | hp
      · exact ea
      · rcases Mine.mem_sym hp with rfl | hp
        · exact eb
        · exact (List.mem_append.mp hp).elim (fun h => (a1 p h).1) fun h => (a2 p h).1
    exact ⟨e', Nat.ne_of_lt (Heap.lt_size e'), rfl⟩
  refine kqd_eq N (.head _) rfl rfl b1 (fun p hp => .tail _ (.tail _ (List.mem_append_left _ hp))) (.tail _ (.head _)) rfl rfl b2 (fun p hp => .tail _ (.tail _ (List.mem_append_right _ hp))) oka okb hu ?_
  exact h _ (by by_cases q : ds = es <;> simp [q])
theorem ne_list {xs ys : List Value} {k k2 : Nat} {ds es : List Dat} {Q : Value → Shared → Prop} (ea : s.heap.get? a = some (PySem.W.listOf xs.toArray k)) (ha : DatsH s.heap xs ds) (eb : s.heap.get? b = some (PySem.W.listOf ys.toArray k2)) (hb : DatsH s.heap ys es) (oka : ∀ d ∈ ds, kqdOk 8 d = true) (okb : ∀ d ∈ es, kqdOk 8 d = true) (hu : A.units + 64 < cLine)
    (h : ∀ b : Bool, (b = true ↔ ds ≠ es) → Q (.bool b) s) : wpAny (model prog w) A (compareOp .NotEq (.ref a) (.ref b)) Q E s := by
  refine Mine.byv fun P_ kP_ => ?_
  obtain ⟨l1, a1, b1⟩ := ha
  obtain ⟨l2, a2, b2⟩ := hb
  refine kP_ ?_
  clear kP_ P_
  have N : News {} s.heap.objs.size s.heap ((a, PySem.W.listOf xs.toArray k) :: (b, PySem.W.listOf ys.toArray k2) :: (l1 ++ l2)) := fun p hp => by
    have e' : s.heap.get? p.1 = some p.2 := by
      rcases Mine.mem_sym hp with rfl | hp
      · exact ea
      · rcases Mine.mem_sym hp with rfl | hp
        · exact eb
        · exact (List.mem_append.mp hp).elim (fun h => (a1 p h).1) fun h => (a2 p h).1
    exact ⟨e', Nat.ne_of_lt (Heap.lt_size e'), rfl⟩
  refine kqd_ne N (.head _) rfl rfl b1 (fun p hp => .tail _ (.tail _ (List.mem_append_left _ hp))) (.tail _ (.head _)) rfl rfl b2 (fun p hp => .tail _ (.tail _ (List.mem_append_right _ hp))) oka okb hu ?_
  exact h _ (by by_cases q : ds = es <;> simp [q])
theorem sorted_rows {xs : List Value} {k : Nat} {ds : List Dat} {Q : Value → Shared → Prop} (el : s.heap.get? l = some (PySem.W.listOf xs.toArray k)) (hd : DatsH s.heap xs ds) (hr : ∀ d ∈ ds, IsRow d) (hsz : ds.length ≤ 100000) (hu : A.units + 20 < cLine)
    (h : ∀ r out ds' k h' tk, Sub s.heap h' → s.heap.get? r = none → h'.get? r = some (PySem.W.listOf out.toArray k) → DatsH h' out ds' → ds'.Perm ds → (ds'.map ky).Pairwise lle → Q (.ref r) { s with heap := h', toks := tk }) :
    wpAny (model prog w) A (call (.builtin "sorted") [.ref l]) Q E s := by
  have hl := hd.length
  refine sorted_any (n := 8) (ds := ds) (by (first | exact ar274 hu | lia)) (rows_sortable hr) (by rw [sizeLine_eq]; (first | exact ar26 hsz | lia)) ?_ fun r out ds' k h' tk a1 a2 a3 a4 a5 a6 => h r out ds' k h' tk a1 a2 a3 a4 a5 a6
  refine wpAny_collect_seq l (.inl rfl) el rfl rfl (fun h' k => ⟨h', _, rfl, k, hd.up k⟩) (by rw [List.size_toArray, sizeLine_eq]; (first | exact ar309 hsz hl | lia))
end
/-- a watch of the fixed law, over a frame's base g -/
structure Wat (w : World) (g v : Heap) (W d C Ln G P R : Addr) (n m : Nat) (cm gm : Int → Option (List (Int × Int))) (ps : List RwA) (rs : List Dat) : Prop where
  I : ∃ t1 t2 t3 t4 t5, InstAt v W (instObj 227 d) 227 (some (watchD w t1 t2 t3 t4 t5 C Ln G P R))
  DC : CM w v C n cm
  DG : CM w v G m gm
  DP : PlacesAt w v P ps
  DR : RacesAt v R rs
  nd : (W :: d :: C :: P :: R :: allOf ps).Nodup
  nG : G ∉ W :: d :: C :: P :: R :: allOf ps
  off : ∀ a ∈ [C, R, P] ++ allOf ps, g.get? a = none
  offG : g.get? G = none
section
variable {w : World} {g v v' H : Heap} {W d C Ln G P R : Addr} {n m n' m' : Nat} {cm gm cm' gm' : Int → Option (List (Int × Int))} {ps ps' : List RwA} {rs rs' : List Dat}
theorem Wat.up (x : Wat w g v W d C Ln G P R n m cm gm ps rs) (k : Sub v v') : Wat w g v' W d C Ln G P R n m cm gm ps rs := by
  refine Mine.byv fun P_ kP_ => ?_
  obtain ⟨t1, t2, t3, t4, t5, I⟩ := x.I
  refine kP_ ?_
  clear kP_ P_
  exact ⟨⟨t1, t2, t3, t4, t5, InstAt.keeps' I (k.keeps []) (by first | exact nin_nil | exact all_nil | ((repeat (first | exact .head _ | refine .tail _ ?_)); done) | simp) (by first | exact nin_nil | exact all_nil | ((repeat (first | exact .head _ | refine .tail _ ?_)); done) | simp)⟩, x.DC.up k, x.DG.up k, x.DP.up k, x.DR.up k, x.nd, x.nG, x.off, x.offG⟩
theorem Wat.clocks (x : Wat w g v W d C Ln G P R n m cm gm ps rs) (k : Keeps [C] v v') (DC' : CM w v' C n' cm') : Wat w g v' W d C Ln G P R n' m cm' gm ps rs := by
  refine Mine.byv fun P_ kP_ => ?_
  obtain ⟨t1, t2, t3, t4, t5, I⟩ := x.I
  refine kP_ ?_
  clear kP_ P_
  have nd := x.nd
  have nG := x.nG
  simp only [List.nodup_cons, List.mem_cons, not_or] at nd nG
  refine Mine.byv fun P_ kP_ => ?_
  obtain ⟨⟨_, hWC, _⟩, ⟨hdC, _⟩, ⟨hCP, hCR, hCa⟩, _⟩ := nd
  refine kP_ ?_
  clear kP_ P_
  have nt := x.DC.noTup
  exact ⟨⟨t1, t2, t3, t4, t5, InstAt.keeps' I k (by first | exact Mine.nin1 (hWC) | exact Mine.all1 (hWC) | simpa using hWC) (fun a e => Mine.dict_nin e (by first | exact Mine.nin1 (hdC) | exact Mine.all1 (hdC) | simpa using hdC))⟩, DC', x.DG.keeps k (by first | exact Mine.nin1 (nG.2.2.1) | exact Mine.all1 (nG.2.2.1) | simpa using nG.2.2.1) nt, x.DP.keeps k (by first | exact Mine.nin1 (Ne.symm hCP) | exact Mine.all1 (Ne.symm hCP) | simpa using Ne.symm hCP) (fun a ha q => hCa (List.mem_singleton.mp q ▸ ha)) nt, x.DR.keeps k (by first | exact Mine.nin1 (Ne.symm hCR) | exact Mine.all1 (Ne.symm hCR) | simpa using Ne.symm hCR) nt, x.nd, x.nG, x.off, x.offG⟩
theorem Wat.clocksG (x : Wat w g v W d C Ln G P R n m cm gm ps rs) (k : Keeps [C, G] v v') (DC' : CM w v' C n' cm') (DG' : CM w v' G m' gm') : Wat w g v' W d C Ln G P R n' m' cm' gm' ps rs := by
  refine Mine.byv fun P_ kP_ => ?_
  obtain ⟨t1, t2, t3, t4, t5, I⟩ := x.I
  refine kP_ ?_
  clear kP_ P_
  have nd := x.nd
  have nG := x.nG
  simp only [List.nodup_cons, List.mem_cons, not_or] at nd nG
  refine Mine.byv fun P_ kP_ => ?_
  obtain ⟨⟨_, hWC, _⟩, ⟨hdC, _⟩, ⟨hCP, hCR, hCa⟩, _⟩ := nd
  obtain ⟨gW, gd, gC, gP, gR, ga⟩ := nG
  refine kP_ ?_
  clear kP_ P_
  have nt : NoTup v [C, G] := x.DC.noTup.cons x.DG.noTup
  exact ⟨⟨t1, t2, t3, t4, t5, InstAt.keeps' I k (by first | ((repeat' (first | exact nin_nil | exact all_nil | (refine nin_cons ?_ ?_) | (refine all_cons ?_ ?_) | assumption | exact Ne.symm (by assumption))); done) | simp [hWC, Ne.symm gW]) (fun a e => Mine.dict_nin e (by first | ((repeat' (first | exact nin_nil | exact all_nil | (refine nin_cons ?_ ?_) | (refine all_cons ?_ ?_) | assumption | exact Ne.symm (by assumption))); done) | simp [hdC, Ne.symm gd]))⟩, DC', DG', x.DP.keeps k (by first | ((repeat' (first | exact nin_nil | exact all_nil | (refine nin_cons ?_ ?_) | (refine all_cons ?_ ?_) | assumption | exact Ne.symm (by assumption))); done) | simp [Ne.symm hCP, Ne.symm gP]) (fun a ha q => by
    simp only [List.mem_cons, List.not_mem_nil, or_false] at q
    rcases q with q_ | q_
    · cases q_; exact hCa ha
    · cases q_; exact ga ha) nt, x.DR.keeps k (by first | ((repeat' (first | exact nin_nil | exact all_nil | (refine nin_cons ?_ ?_) | (refine all_cons ?_ ?_) | assumption | exact Ne.symm (by assumption))); done) | simp [Ne.symm hCR, Ne.symm gR]) nt, x.nd, x.nG, x.off, x.offG⟩
theorem Wat.looked (x : Wat w g v W d C Ln G P R n m cm gm ps rs) (V : Sub v H) (hg : Sub g H) (k : Keeps ([C, R, P] ++ allOf ps) v v') (DC' : CM w v' C n' cm) (DR' : RacesAt v' R rs') (DP' : PlacesAt w v' P ps') (all : ∀ a ∈ allOf ps', a ∈ allOf ps ∨ H.get? a = none) (nd' : (allOf ps').Nodup) : Wat w g v' W d C Ln G P R n' m cm gm ps' rs' := by
  have al : ∀ a ∈ C :: P :: R :: G :: allOf ps, ∃ o, H.get? a = some o := fun a ha => by
    rcases Mine.mem_sym ha with rfl | ha
    · obtain ⟨o, e⟩ := x.DC.alive; exact ⟨o, V _ _ e⟩
    rcases Mine.mem_sym ha with rfl | ha
    · obtain ⟨o, e⟩ := x.DP.alive _ (.head _); exact ⟨o, V _ _ e⟩
    rcases Mine.mem_sym ha with rfl | ha
    · obtain ⟨o, e⟩ := x.DR.alive; exact ⟨o, V _ _ e⟩
    rcases Mine.mem_sym ha with rfl | ha
    · obtain ⟨o, e⟩ := x.DG.alive; exact ⟨o, V _ _ e⟩
    · obtain ⟨o, e⟩ := x.DP.alive _ (.tail _ ha); exact ⟨o, V _ _ e⟩
  refine Mine.byv fun P_ kP_ => ?_
  obtain ⟨t1, t2, t3, t4, t5, I⟩ := x.I
  refine kP_ ?_
  clear kP_ P_
  have aW : ∃ o, H.get? W = some o := ⟨_, V _ _ I.at_⟩
  have ad : ∃ o, H.get? d = some o := ⟨_, V _ _ I.dict⟩
  have nin : ∀ {b : Addr}, b ∉ allOf ps → (∃ o, H.get? b = some o) → b ∉ allOf ps' := fun hb ⟨o, e⟩ q => by
    rcases all _ q with q | q
    · exact hb q
    · rw [q] at e; cases e
  have nd := x.nd
  have nG := x.nG
  simp only [List.mem_cons, not_or] at nG
  obtain ⟨hWd, hWC, hWP, hWR, hWa, hdC, hdP, hdR, hda, hCP, hCR, hCa, hPR, hPa, hRa, hn⟩ := nd5 nd
  refine Mine.byv fun P_ kP_ => ?_
  obtain ⟨gW, gd, gC, gP, gR, ga⟩ := nG
  refine kP_ ?_
  clear kP_ P_
  have nt : NoTup v ([C, R, P] ++ allOf ps) := x.DC.noTup.cons (x.DR.noTup.cons x.DP.noTup)
  refine ⟨⟨t1, t2, t3, t4, t5, InstAt.keeps' I k (by first | ((repeat' (first | exact nin_nil | exact all_nil | (refine nin_cons ?_ ?_) | (refine all_cons ?_ ?_) | assumption | exact Ne.symm (by assumption))); done) | simp [hWC, hWP, hWR, hWa]) (fun a e => Mine.dict_nin e (by first | ((repeat' (first | exact nin_nil | exact all_nil | (refine nin_cons ?_ ?_) | (refine all_cons ?_ ?_) | assumption | exact Ne.symm (by assumption))); done) | simp [hdC, hdP, hdR, hda]))⟩, DC', x.DG.keeps k (by first | ((repeat' (first | exact nin_nil | exact all_nil | (refine nin_cons ?_ ?_) | (refine all_cons ?_ ?_) | assumption | exact Ne.symm (by assumption))); done) | simp [gC, gP, gR, ga]) nt, DP', DR', ?_, ?_, fun a ha => ?_, x.offG⟩
  · simp only [List.nodup_cons, List.mem_cons, not_or]
    exact ⟨⟨hWd, hWC, hWP, hWR, nin hWa aW⟩, ⟨hdC, hdP, hdR, nin hda ad⟩, ⟨hCP, hCR, nin hCa (al _ (.head _))⟩, ⟨hPR, nin hPa (al _ (.tail _ (.head _)))⟩, nin hRa (al _ (.tail _ (.tail _ (.head _)))), nd'⟩
  · simp only [List.mem_cons, not_or]
    exact ⟨gW, gd, gC, gP, gR, nin ga (al _ (.tail _ (.tail _ (.tail _ (.head _)))))⟩
  · rcases List.mem_append.mp ha with ha | ha
    · exact x.off a (List.mem_append_left _ ha)
    · rcases all a ha with q | q
      · exact x.off a (List.mem_append_right _ q)
      · exact none_of hg q
end
theorem one_row {l : List Dat} {a : Dat} (hn : l.Nodup) (h : ∀ d, d ∈ l ↔ d = a) : l = [a] := by
  cases l with
  | nil => exact absurd ((h a).mpr rfl) (by first | exact nin_nil | exact all_nil | ((repeat (first | exact .head _ | refine .tail _ ?_)); done) | simp)
  | cons b r =>
    have hb := (h b).mp (.head _)
    subst hb
    cases r with
    | nil => rfl
    | cons c r =>
      have hc := (h c).mp (.tail _ (.head _))
      subst hc
      exact absurd (List.mem_cons_self) (List.nodup_cons.mp hn).1
section
variable {p : Program} {loose : List Str} {mg mb : Str → Option Value} {w : World} {dp un : Nat} {fr : Option (List Env)} {gd : Option (List Code)} {h₀ v : Heap} {s : Shared} {Q : Value → Shared → Prop}
theorem fixed_call (X : (hd.heap_1 w.params).In h₀) (T : TopRead p loose mg mb h₀) (H : Sub h₀ v) (V : Sub v s.heap) (hdp : dp + 14 < recursionLimit) (hun : un + 250 < cLine)
  (ret : ∀ v' h' tk', Post s.heap v v' h' [] → Q (.bool true) {s with heap := h', toks := tk'}) :
  wpAny (model PySem.Challenge.rw_on0014_01.prog w) (Ar dp fr gd un) (call (.ref 293) []) Q (fun _ _ => False) s := by
  have X0 := X
  have T0 := T
  revert X; k_fill; intro X
  refine wpAny_call ?_
  k_dflt (refine' into (f := 293) [] [] X T H V ?o1 ?o2 ?k1 ?k2 ?k3 ?k4 ?k5 ?k6 ?k7 ?k8 ?k9 ?_; (case o1 => first | exact Mine.all_nil | simp); (case o2 => first | exact Mine.all_nil | simp); (case k1 => k_is); (case k2 => k_is); (case k3 => first | exact Nat.lt_of_le_of_lt (Nat.le_add_right _ _) hdp | lia); (case k4 => rfl); (case k5 => exact locs rfl); (case k6 => decide); (case k7 => rfl); (case k8 => rfl); (case k9 => rfl))
  intro g L h₁ fr' own A' e_ s1_ m0 Z F N Xg Tg
  iterate 5 walk1
  rename Fr g L _ _ => F1
  rename News g L _ own => N1
  refine watch_new X0 T0 (Z.H.trans (Z.sub F1 N1 fun _ h => h)) (Mine.room hdp) (Mine.room hun) fun W d C Ln G P R t1 t2 t3 t4 t5 h2 tk2 k2 hno ndW eW ed hD eR => ?_
  refine Z.pureK F1 N1 k2 ?_
  intro v2 own2 mm_ Z2  F2  N2  kv2  kh2  hall  hnew
  (try (refine Mine.wp_let ?_; intro sQ53_))
  have gno : ∀ a ∈ [W, d, C, Ln, G, P, R], g.get? a = none := fun a ha => none_of (Fr.toSub F1) (hno a ha)
  have hDv : ∀ a ∈ [C, Ln, G, P], v2.DictOf (intKind PG w) a [] ∧ (a == sysModules) = false := fun a ha => by
    refine Mine.byv fun P_ kP_ => ?_
    obtain ⟨D, lo⟩ := hD a ha
    obtain ⟨o, ho, hO⟩ := Heap.dictOf_iff.mp D
    refine kP_ ?_
    clear kP_ P_
    exact ⟨Heap.dictOf_iff.mpr ⟨o, hnew _ _ ho (hno a (by
      simp only [List.mem_cons, List.not_mem_nil, or_false] at ha ⊢
      rcases ha with q | q | q | q <;> simp [q])), hO⟩, lo⟩
  have cm0 : ∀ a ∈ [C, Ln, G, P], CM w v2 a 0 (fun _ => none) := fun a ha => ⟨[], (hDv a ha).1, Nat.le_refl _, (hDv a ha).2, fun _ => .inl ⟨rfl, rfl⟩⟩
  have A2 : Wat w g v2 W d C Ln G P R 0 0 (fun _ => none) (fun _ => none) [] [] := by
    simp only [List.nodup_cons, List.mem_cons, List.not_mem_nil, or_false, not_or, not_false_eq_true, List.nodup_nil, and_true] at ndW
    refine Mine.byv fun P_ kP_ => ?_
    obtain ⟨⟨a1, a2, a3, a4, a5, a6⟩, ⟨b1, b2, b3, b4, b5⟩, ⟨c1, c2, c3, c4⟩, ⟨d1, d2, d3⟩, ⟨e1, e2⟩, f1⟩ := ndW
    refine kP_ ?_
    clear kP_ P_
    refine ⟨⟨t1, t2, t3, t4, t5, ⟨hnew _ _ eW (hno W (by first | exact nin_nil | exact all_nil | ((repeat (first | exact .head _ | refine .tail _ ?_)); done) | simp)), rfl, rfl, hnew _ _ ed (hno d (by first | exact nin_nil | exact all_nil | ((repeat (first | exact .head _ | refine .tail _ ?_)); done) | simp))⟩⟩, cm0 C (by first | exact nin_nil | exact all_nil | ((repeat (first | exact .head _ | refine .tail _ ?_)); done) | simp), cm0 G (by first | exact nin_nil | exact all_nil | ((repeat (first | exact .head _ | refine .tail _ ?_)); done) | simp), ⟨(hDv P (by first | exact nin_nil | exact all_nil | ((repeat (first | exact .head _ | refine .tail _ ?_)); done) | simp)).1, (hDv P (by first | exact nin_nil | exact all_nil | ((repeat (first | exact .head _ | refine .tail _ ?_)); done) | simp)).2, fun r hr => by cases hr⟩, ⟨[], 0, hnew _ _ eR (hno R (by first | exact nin_nil | exact all_nil | ((repeat (first | exact .head _ | refine .tail _ ?_)); done) | simp)), DatsH.nil _⟩, ?_, ?_, fun a ha => gno a ?_, gno G (by first | exact nin_nil | exact all_nil | ((repeat (first | exact .head _ | refine .tail _ ?_)); done) | simp)⟩
    · simp [allOf, a1, a2, a5, a6, b1, b4, b5, c3, c4, f1]
    · simp [allOf, e1, e2, Ne.symm a4, Ne.symm b3, Ne.symm c2]
    · simp only [allOf, List.flatMap_nil, List.append_nil, List.mem_cons, List.not_mem_nil, or_false] at ha ⊢
      rcases ha with q | q | q <;> simp [q]
  clear cm0 hDv hnew hall
  refine Mine.byv fun P_ kP_ => ?_
  obtain ⟨_, _, _, _, _, I2⟩ := A2.I
  refine kP_ ?_
  clear kP_ P_
  (try clear F1); (try clear N1); (try clear F); (try clear N)
  iterate 14 walk1
  rename Fr g L _ _ => F3
  rename News g L _ own2 => N3
  obtain ⟨⟨hWd, hWC, hWP, hWR, hWa⟩, ⟨hdC, hdP, hdR, hda⟩, hrest⟩ : (¬W = d ∧ ¬W = C ∧ ¬W = P ∧ ¬W = R ∧ W ∉ ([] : List Addr)) ∧ (¬d = C ∧ ¬d = P ∧ ¬d = R ∧ d ∉ ([] : List Addr)) ∧ True := by
    have := A2.nd
    simp only [allOf, List.flatMap_nil, List.nodup_cons, List.mem_cons, not_or] at this
    exact ⟨this.1, this.2.1, trivial⟩
  have hWG : W ≠ G := fun q => A2.nG (by rw [q]; exact .head _)
  have hdG : d ≠ G := fun q => A2.nG (by rw [q]; exact .tail _ (.head _))
  have hGC : G ≠ C := fun q => A2.nG (by rw [q]; exact .tail _ (.tail _ (.head _)))
  have offC : h₀.get? C = none := none_of Z2.Hg (A2.off C (by first | exact nin_nil | exact all_nil | ((repeat (first | exact .head _ | refine .tail _ ?_)); done) | simp))
  have offG : h₀.get? G = none := none_of Z2.Hg A2.offG
  refine go_call X0 T0 Z2.H (Z2.sub F3 N3 fun _ h => h) (Mine.room hdp) (Mine.room hun) I2 hWC hdC offC A2.DC (by (first | exact ar124 | lia)) (fun z c e => by cases e) fun c1 c2 v3 h3 tk3 P3 DC3 hp1 hp2 => ?_
  refine Z2.backK F3 N3 P3 (by first | exact Mine.nin1 (A2.off C (by first | exact nin_nil | exact all_nil | ((repeat (first | exact .head _ | refine .tail _ ?_)); done) | simp)) | exact Mine.all1 (A2.off C (by first | exact nin_nil | exact all_nil | ((repeat (first | exact .head _ | refine .tail _ ?_)); done) | simp)) | simpa using A2.off C (by first | exact nin_nil | exact all_nil | ((repeat (first | exact .head _ | refine .tail _ ?_)); done) | simp)) (by first | exact Mine.nin1 (A2.DC.alive) | exact Mine.all1 (A2.DC.alive) | simpa using A2.DC.alive) ?_
  intro own3 mm_ Z3  F4  N4
  (try (refine Mine.wp_let ?_; intro sQ54_))
  have A3 := A2.clocks P3.keeps DC3
  have e01 : cOf (fun _ => none) 0 = [(0, 1)] := rfl
  have e12 : cOf (upd (fun _ => none) 0 c1) 1 = [(1, 1)] := rfl
  rw [e01] at hp1 hp2
  rw [e12] at hp2
  have k1 := tick_spec (KOk.one (by (first | exact ar8 | lia)) (by (first | exact ar6 | lia))) (by (first | exact ar8 | lia)) hp1
  have k2 := joinL_spec (KOk.one (by (first | exact ar130 | lia)) (by (first | exact ar6 | lia))) (KOk.one (by (first | exact ar8 | lia)) (by (first | exact ar6 | lia))) hp2
  have c11 : cnt c1 1 = 0 := by rw [k1.2]; decide
  have c21 : cnt c2 1 = 1 := by rw [k2.2]; decide
  have hcm1 : upd (upd (fun _ => none) 0 c1) 1 c2 1 = some c2 := upd_at _ _ _
  have hcm0 : upd (upd (fun _ => none) 0 c1) 1 c2 0 = some c1 := rfl
  refine Mine.byv fun P_ kP_ => ?_
  obtain ⟨_, _, _, _, _, I3⟩ := A3.I
  refine kP_ ?_
  clear kP_ P_
  (try clear F2); (try clear N2); (try clear F3); (try clear N3)
  iterate 21 walk1
  rename Fr g L _ _ => F5
  rename News g L _ (_ :: _ :: own3) => N5
  refine Z3.growK F5 N5 (fun p hp => .tail _ (.tail _ hp)) fun v4  Z4  k4  k4h  kn4 => ?_
  have A4 := A3.up k4
  have lv4 : DatH v4 _ (locD 3 []) := DatH.tuple (n := 0) (vs := [_, _]) (kn4 _ (.head _)) (DatsH.cons (DatH.int _ 3 _) (DatsH.cons (path_of (ns := []) (kn4 _ (.tail _ (.head _))) .nil) (DatsH.nil _)))
  refine Mine.byv fun P_ kP_ => ?_
  obtain ⟨_, _, _, _, _, I4⟩ := A4.I
  refine kP_ ?_
  clear kP_ P_
  refine read_call rfl (n := 4) (m := 0) X0 T0 Z4.H k4h (Mine.room hdp) (Mine.room hun) I4 A4.nd (fun x hx => none_of Z4.Hg (A4.off x hx)) lv4 A4.DC hcm1 k2.1 A4.DR A4.DP (fun d hd => by cases hd) (by first | exact nin_nil | exact all_nil | ((repeat (first | exact .head _ | refine .tail _ ?_)); done) | simp) (by (first | exact ar132 | lia)) ⟨by simp, fun r hr => by cases hr⟩ (by (first | exact ar139 | lia)) (by first | exact nin_nil | exact all_nil | ((repeat (first | exact .head _ | refine .tail _ ?_)); done) | simp) fun ps1 rs1 v5 h5 tk5 P5 DC5 DR5 DP5 all5 nd5 bd5 len5 ok5 no5 mem5 sem5 => ?_
  have alv : ∀ {v : Heap} {n m : Nat} {cm gm : Int → Option (List (Int × Int))} {ps : List RwA} {rs : List Dat}, Wat w g v W d C Ln G P R n m cm gm ps rs → ∀ a ∈ [C, R, P] ++ allOf ps, ∃ o, v.get? a = some o := fun A a ha => by
    simp only [List.mem_append, List.mem_cons, List.not_mem_nil, or_false] at ha
    rcases ha with (q_ | q_ | q_) | ha
    · cases q_; exact A.DC.alive
    · cases q_; exact A.DR.alive
    · cases q_; exact A.DP.alive _ (.head _)
    · exact A.DP.alive _ (.tail _ ha)
  refine Z4.backK F5 N5 P5 A4.off (alv A4) ?_
  intro own5 mm_ Z5  F6  N6
  (try (refine Mine.wp_let ?_; intro sQ55_))
  have A5 := A4.looked k4h (Fr.toSub F5) P5.keeps DC5 DR5 DP5 all5 nd5
  have w0 : ∀ n p o, Wf [] n p o = 0 := fun _ _ _ => rfl
  have r0 : ∀ n p o, Rf [] n p o = 0 := fun _ _ _ => rfl
  have hrw : ¬ readW = writeW := by decide
  have hwr : ¬ writeW = readW := by decide
  have wf1 : ∀ n p o, Wf ps1 n p o = 0 := fun n p o => by rw [(sem5 n p o).1, if_neg fun q => hrw q.1, w0]
  have rf1 : ∀ n p o, Rf ps1 n p o = if n = 3 ∧ p = [] ∧ o = 1 then 1 else 0 := fun n p o => by rw [(sem5 n p o).2, r0, c21]; simp
  obtain rfl : rs1 = [] := List.eq_nil_iff_forall_not_mem.mpr fun d hd => by
    rcases (mem5 d).mp hd with q | ⟨kk, _, o, _, ⟨q, _⟩ | ⟨q, _⟩⟩
    · cases q
    · rw [w0] at q; have := k2.1.nonneg o; (first | exact ar149 q this | lia)
    · exact hrw q
  refine Mine.byv fun P_ kP_ => ?_
  obtain ⟨_, _, _, _, _, I5⟩ := A5.I
  refine kP_ ?_
  clear kP_ P_
  (try clear F4); (try clear N4); (try clear F5); (try clear N5)
  iterate 23 walk1
  rename Fr g L _ _ => F7
  rename News g L _ (_ :: _ :: own5) => N7
  refine Z5.growK F7 N7 (fun p hp => .tail _ (.tail _ hp)) fun v6  Z6  k6  k6h  kn6 => ?_
  have A6 := A5.up k6
  have lv6 : DatH v6 _ (locD 3 [0]) := DatH.tuple (n := 0) (vs := [_, _]) (kn6 _ (.head _)) (DatsH.cons (DatH.int _ 3 _) (DatsH.cons (path_of (ns := [0]) (kn6 _ (.tail _ (.head _))) (.cons _ _ .nil)) (DatsH.nil _)))
  refine Mine.byv fun P_ kP_ => ?_
  obtain ⟨_, _, _, _, _, I6⟩ := A6.I
  refine kP_ ?_
  clear kP_ P_
  refine write_call rfl (n := 5) (m := 1) X0 T0 Z6.H k6h (Mine.room hdp) (Mine.room hun) I6 A6.nd (fun x hx => none_of Z6.Hg (A6.off x hx)) lv6 A6.DC hcm0 k1.1 A6.DR A6.DP (fun d hd => by cases hd) (by first | exact nin_nil | exact all_nil | ((repeat (first | exact .head _ | refine .tail _ ?_)); done) | simp) (by (first | exact ar134 | lia)) bd5 (by (first | exact ar143 | lia)) (by first | exact nin_nil | exact all_nil | ((repeat (first | exact .head _ | refine .tail _ ?_)); done) | simp) fun ps2 rs2 v7 h7 tk7 P7 DC7 DR7 DP7 all7 nd7 bd7 len7 ok7 no7 mem7 sem7 => ?_
  refine Z6.backK F7 N7 P7 A6.off (alv A6) ?_
  intro own7 mm_ Z7  F8  N8
  (try (refine Mine.wp_let ?_; intro sQ56_))
  have A7 := A6.looked k6h (Fr.toSub F7) P7.keeps DC7 DR7 DP7 all7 nd7
  obtain rfl : rs2 = [rowD 0 3 [0] writeW 1 readW] := one_row (no7 List.nodup_nil) fun d => by
    rw [mem7]
    constructor
    · intro hp0_
      obtain (q | ⟨kk, _, o, _, ⟨q, _⟩ | ⟨_, q, rfl⟩⟩) := hp0_
      · cases q
      · rw [wf1] at q; have := k1.1.nonneg o; lia
      · rw [rf1] at q
        have := k1.1.nonneg o
        split at q
        · rename_i h; rw [h.2.2]
        · lia
    · rintro rfl
      exact .inr ⟨[], by decide, 1, by decide, .inr ⟨rfl, by rw [rf1, c11]; decide, rfl⟩⟩
  have wf2 : ∀ n p o, o ≠ 0 → Wf ps2 n p o = 0 := fun n p o ho => by rw [(sem7 n p o).1, if_neg fun q => ho q.2.2.2, wf1]
  have rf2 : ∀ n p o, Rf ps2 n p o = if n = 3 ∧ p = [] ∧ o = 1 then 1 else 0 := fun n p o => by rw [(sem7 n p o).2, if_neg fun q => hwr q.1, rf1]
  refine Mine.byv fun P_ kP_ => ?_
  obtain ⟨_, _, _, _, _, I7⟩ := A7.I
  refine kP_ ?_
  clear kP_ P_
  (try clear F6); (try clear N6); (try clear F7); (try clear N7)
  iterate 13 walk1
  rename Fr g L _ _ => F9
  rename News g L _ own7 => N9
  have ec2 : cOf (upd (upd (fun _ => none) 0 c1) 1 c2) 1 = c2 := by unfold cOf; rw [hcm1]; rfl
  refine leave_call X0 T0 Z7.H (Z7.sub F9 N9 fun _ h => h) (Mine.room hdp) (Mine.room hun) I7 hWC hdC hWG hdG offC offG A7.DC A7.DG hGC (by (first | exact ar140 | lia)) (by (first | exact ar131 | lia)) (by rw [ec2]; have := k2.1.short; simp [gOf]; (first | exact ar28 this | lia)) fun c3 gc v8 h8 tk8 P8 DC8 DG8 hp3 hp4 => ?_
  rw [ec2] at hp3 hp4
  have k4' := joinL_spec (a := []) KOk.nil k2.1 hp4
  have g1 : cnt gc 1 = 1 := by rw [k4'.2, c21]; decide
  obtain ⟨own8, Z8, F10, N10⟩ := Z7.back F9 N9 P8 (fun a ha => by
    simp only [List.mem_cons, List.not_mem_nil, or_false] at ha
    rcases ha with q_ | q_
    · cases q_; exact A7.off _ (by first | exact nin_nil | exact all_nil | ((repeat (first | exact .head _ | refine .tail _ ?_)); done) | simp)
    · cases q_; exact A7.offG) (fun a ha => by
    simp only [List.mem_cons, List.not_mem_nil, or_false] at ha
    rcases ha with q_ | q_
    · cases q_; exact A7.DC.alive
    · cases q_; exact A7.DG.alive)
  have A8 := A7.clocksG P8.keeps DC8 DG8
  refine Mine.byv fun P_ kP_ => ?_
  obtain ⟨_, _, _, _, _, I8⟩ := A8.I
  refine kP_ ?_
  clear kP_ P_
  (try clear F8); (try clear N8); (try clear F9); (try clear N9)
  iterate 13 walk1
  rename Fr g L _ _ => F11
  rename News g L _ own8 => N11
  have ec0 : cOf (upd (upd (upd (fun _ => none) 0 c1) 1 c2) 1 c3) 0 = c1 := rfl
  have eg : gOf (upd (fun _ => none) 2 gc) 2 = gc := rfl
  refine enter_call X0 T0 Z8.H (Z8.sub F11 N11 fun _ h => h) (Mine.room hdp) (Mine.room hun) I8 hWC hdC offC A8.DC A8.DG hGC (by (first | exact ar141 | lia)) (by rw [ec0, eg]; have := k1.1.short; have := k4'.1.short; (first | exact ar32 (by assumption) this | lia)) fun c4 v9 h9 tk9 P9 DC9 hp5 => ?_
  rw [ec0, eg] at hp5
  have k5 := joinL_spec k1.1 k4'.1 hp5
  have c41 : cnt c4 1 = 1 := by rw [k5.2, c11, g1]; decide
  refine Z8.backK F11 N11 P9 (by first | exact Mine.nin1 (A8.off C (by first | exact nin_nil | exact all_nil | ((repeat (first | exact .head _ | refine .tail _ ?_)); done) | simp)) | exact Mine.all1 (A8.off C (by first | exact nin_nil | exact all_nil | ((repeat (first | exact .head _ | refine .tail _ ?_)); done) | simp)) | simpa using A8.off C (by first | exact nin_nil | exact all_nil | ((repeat (first | exact .head _ | refine .tail _ ?_)); done) | simp)) (by first | exact Mine.nin1 (A8.DC.alive) | exact Mine.all1 (A8.DC.alive) | simpa using A8.DC.alive) ?_
  intro own9 mm_ Z9  F12  N12
  (try (refine Mine.wp_let ?_; intro sQ57_))
  have A9 := A8.clocks P9.keeps DC9
  refine Mine.byv fun P_ kP_ => ?_
  obtain ⟨_, _, _, _, _, I9⟩ := A9.I
  refine kP_ ?_
  clear kP_ P_
  (try clear F10); (try clear N10); (try clear F11); (try clear N11)
  iterate 21 walk1
  rename Fr g L _ _ => F13
  rename News g L _ (_ :: _ :: own9) => N13
  refine Z9.growK F13 N13 (fun p hp => .tail _ (.tail _ hp)) fun v10  Z10  k10  k10h  kn10 => ?_
  have A10 := A9.up k10
  have lv10 : DatH v10 _ (locD 3 []) := DatH.tuple (n := 0) (vs := [_, _]) (kn10 _ (.head _)) (DatsH.cons (DatH.int _ 3 _) (DatsH.cons (path_of (ns := []) (kn10 _ (.tail _ (.head _))) .nil) (DatsH.nil _)))
  refine Mine.byv fun P_ kP_ => ?_
  obtain ⟨_, _, _, _, _, I10⟩ := A10.I
  refine kP_ ?_
  clear kP_ P_
  have okr : ∀ d ∈ [rowD 0 3 [0] writeW 1 readW], kqdOk 8 d = true := fun d hd => by
    rw [List.mem_singleton.mp hd]
    exact rowD_ok (.inr rfl) (.inl rfl)
  refine write_call rfl (m := 2) X0 T0 Z10.H k10h (Mine.room hdp) (Mine.room hun) I10 A10.nd (fun x hx => none_of Z10.Hg (A10.off x hx)) lv10 A10.DC (upd_at _ _ _) k5.1 A10.DR A10.DP okr (by first | exact nin_nil | exact all_nil | ((repeat (first | exact .head _ | refine .tail _ ?_)); done) | simp) (by (first | exact ar137 | lia)) bd7 (by (first | exact ar142 | lia)) (by first | exact nin_nil | exact all_nil | ((repeat (first | exact .head _ | refine .tail _ ?_)); done) | simp) fun ps3 rs3 v11 h11 tk11 P11 DC11 DR11 DP11 all11 nd11 bd11 len11 ok11 no11 mem11 sem11 => ?_
  refine Z10.backK F13 N13 P11 A10.off (alv A10) ?_
  intro own11 mm_ Z11  F14  N14
  (try (refine Mine.wp_let ?_; intro sQ58_))
  have A11 := A10.looked k10h (Fr.toSub F13) P11.keeps DC11 DR11 DP11 all11 nd11
  obtain rfl : rs3 = [rowD 0 3 [0] writeW 1 readW] := one_row (no11 (by first | exact nin_nil | exact all_nil | ((repeat (first | exact .head _ | refine .tail _ ?_)); done) | simp)) fun d => by
    rw [mem11]
    constructor
    · intro hp0_
      obtain (q | ⟨kk, _, o, ho, ⟨q, _⟩ | ⟨_, q, rfl⟩⟩) := hp0_
      · exact List.mem_singleton.mp q
      · rw [wf2 _ _ _ ho] at q; have := k5.1.nonneg o; lia
      · rw [rf2] at q
        have := k5.1.nonneg o
        split at q
        · rename_i h; rw [h.2.2, c41] at q; lia
        · lia
    · rintro rfl
      exact .inl (.head _)
  refine Mine.byv fun P_ kP_ => ?_
  obtain ⟨_, _, _, _, _, I11⟩ := A11.I
  refine kP_ ?_
  clear kP_ P_
  (try clear F12); (try clear N12); (try clear F13); (try clear N13)
  iterate 42 walk1
  rename Fr g L _ _ => F15
  rename News g L _ (_ :: _ :: _ :: _ :: _ :: _ :: own11) => N15
  have V11 := Z11.sub F15 N15 (fun p hp => by repeat (first | exact hp | refine List.Mem.tail _ ?_))
  refine Mine.byv fun P_ kP_ => ?_
  obtain ⟨rvs, rk, hR, hRd⟩ := A11.DR
  refine kP_ ?_
  clear kP_ P_
  have hrow : DatH _ _ (rowD 0 3 [0] writeW 1 readW) := DatH.tuple (n := 0) (vs := [_, _, _]) (N15 _ (.tail _ (.head _))).1
    (DatsH.cons (DatH.tuple (n := 0) (vs := [_, _]) (N15 _ (.tail _ (.tail _ (.tail _ (.tail _ (.head _)))))).1 (DatsH.cons (DatH.int _ 3 _) (DatsH.cons (path_of (ns := [0]) (N15 _ (.tail _ (.tail _ (.tail _ (.tail _ (.tail _ (.head _))))))).1 (.cons _ _ .nil)) (DatsH.nil _))))
    (DatsH.cons (DatH.tuple (n := 0) (vs := [_, _]) (N15 _ (.tail _ (.tail _ (.tail _ (.head _))))).1 (DatsH.cons (DatH.int _ 1 _) (DatsH.cons (DatH.str _ readW _) (DatsH.nil _))))
    (DatsH.cons (DatH.tuple (n := 0) (vs := [_, _]) (N15 _ (.tail _ (.tail _ (.head _)))).1 (DatsH.cons (DatH.int _ 0 _) (DatsH.cons (DatH.str _ writeW _) (DatsH.nil _)))) (DatsH.nil _))))
  refine eq_list (V11 _ _ hR) (hRd.up V11) (ys := [_]) (N15 _ (.head _)).1 (DatsH.cons hrow (DatsH.nil _)) okr okr (Mine.room hun) fun b hb => ?_
  obtain rfl : b = true := hb.mpr rfl
  (try k_steps)
  show Q (.bool true) _
  (try k_steps)
  exact ret v11 _ _ (Z11.post F15 (News.pick N15 fun p hp => by repeat (first | exact hp | refine List.Mem.tail _ ?_)))
end
section
variable {prog : Program} {w : World} {A : Around} {s : Shared} {env : Env} {Q : Flow → Shared → Prop}
/-- what a for's head is to hand on: its value is a short range -/
inductive RangeLoop (prog : Program) (w : World) (A : Around) (env : Env) (target : Expr) (body : List Stmt) (Q : Flow → Shared → Prop) (xv : Value) (s : Shared) : Prop
  | mk (r : Addr) (a b : Int) (t u v : Tok) (g : Heap) (m : Str → Option Value) (own : List (Addr × Obj)) (J : Nat → (Str → Option Value) → List (Addr × Obj) → Prop)
    (e : xv = .ref r) (hr : IsRange s.heap r a b 1 t u v) (hb : 0 ≤ a ∧ a ≤ b ∧ b ≤ 1000) (F : Fr g env.locals s.heap m) (N : News g env.locals s.heap own) (hJ : J 0 m own)
    (turn : ∀ i v m own I oI h tk, i < (b - a).toNat → (∃ t, v = .int (a + (i : Nat)) t) → J i m own → Fr g env.locals h m → News g env.locals h ((I, oI) :: own) → (∀ q ∈ own, q.1 ≠ I) → (oI.cls = .type "tuple_iterator" ∨ oI.cls = .type "list_iterator" ∨ oI.cls = .type "range_iterator") →
      wpAny (model prog w) A (assign target env v) (fun _ s₂ => wpAny (model prog w) A (execs body env) (Turn g env.locals I oI (J (i + 1)) s Q) (fun _ _ => False) s₂) (fun _ _ => False) { s with heap := h, toks := tk })
    (done : ∀ m own h tk, J (b - a).toNat m own → Fr g env.locals h m → News g env.locals h own → Q .next { s with heap := h, toks := tk })
theorem seq_go {target : Expr} {body : List Stmt} {pos : Pos} {iter : Expr} (hh : A.handled = none)
    (h : wpAny (model prog w) A (eval iter env) (fun xv s₁ => SeqLoop prog w A env target body Q xv s₁ ∨ RangeLoop prog w A env target body Q xv s₁) (fun _ _ => False) s)
    (hT : (∀ v I, letOwnedTupleGo target (.ref I) v = pure ()) ∨ ∃ es k p, target = .Tuple es k p)
    (hs : ∀ x, foldedSetIterable iter env x = pure x := by intro _; rfl) :
    wpAny (model prog w) A (exec (.For target iter body [] pos) env) Q (fun _ _ => False) s := by
  refine wpAny_For (wpAny_mono h (fun xv s₁ h₁ => ?_) fun _ _ e => e) hs
  rcases h₁ with h₁ | h₁
  · exact seq_core hh hT h₁
  · obtain ⟨r, a, b, t, u, v, g, m, own, J, rfl, hr, ⟨ha, hab, hb⟩, F, N, hJ, turn, done⟩ := h₁
    have hIg : g.get? s₁.heap.objs.size = none := next_is_new F
    have hIL : s₁.heap.objs.size ≠ env.locals := fun e => absurd F.ns.lt (by rw [← e]; exact Nat.lt_irrefl _)
    have hIo : ∀ q ∈ own, q.1 ≠ s₁.heap.objs.size := fun q hq => Nat.ne_of_lt (Heap.lt_size (N q hq).1)
    refine wpAny_pyIter_range hr (small_one (by lia) (by lia) (by lia) (by lia)) ?_
    have W := Walks.range (prog := prog) (w := w) hh s₁.heap.objs.size a 1 (b - a).toNat
    have hsz : Builtin.Range.rangeSize a b 1 = (((b - a).toNat : Nat) : Int) - ((0 : Nat) : Int) := by
      rw [rangeSize_one]
      split <;> lia
    refine loop_walk W (by
      show IsRangeIter _ _ _ _ _
      unfold IsRangeIter
      rw [hsz, show a + ((0 : Nat) : Int) * 1 = a by simp]
      exact Heap.get?_push_size _ rfl) (F.push _) (fun q hq => ⟨Heap.get?_push_of_some _ (N q hq).1, (N q hq).2⟩) hIg hIL hIo J hJ
      (fun i h _ x => ⟨_, x, .inr (.inr rfl)⟩) (fun b hb hn => absurd (List.mem_singleton.mp hb) hn) (fun v s o Q E a b c => go_ok hT _ _ _ _ _ _ a b c) ?_ ?_
    · intro i v m own oI h tk hi hP hJ F N q c
      exact turn i v m own _ oI h tk hi (by first | exact Mine.nin1 (hP) | exact Mine.all1 (hP) | simpa using hP) hJ F N q c
    · exact done
theorem seq_goL {target : Expr} {body : List Stmt} {pos : Pos} {iter : Expr} (hh : A.handled = none)
    (h : wpAny (model prog w) A (eval iter env) (fun xv s₁ => SeqLoop prog w A env target body Q xv s₁ ∨ RangeLoop prog w A env target body Q xv s₁) (fun _ _ => False) s)
    (hT : ∀ v I, letOwnedTupleGo target (.ref I) v = pure () := by exact fun _ _ => rfl) (hs : ∀ x, foldedSetIterable iter env x = pure x := by exact fun _ => rfl) :
    wpAny (model prog w) A (exec (.For target iter body [] pos) env) Q (fun _ _ => False) s := seq_go hh h (.inl hT) hs
end
section
variable {h₀ s0 v0 g vs v' h h' : Heap} {fp fp1 : List Addr} {L : Addr} {own : List (Addr × Obj)} {m : Str → Option Value}
/-- a call's end in a loop's turn: the iterator stands beside the view -/
theorem Ctx.backI {I : Addr} {oI : Obj} (Z : Ctx h₀ s0 v0 fp g L own vs) (F : Fr g L h m) (N : News g L h ((I, oI) :: own)) (hno : ∀ q ∈ own, q.1 ≠ I) (nt : ¬ IsTupO oI) (P : Post h vs v' h' fp1) (hg : ∀ a ∈ fp1, g.get? a = none) (al : ∀ a ∈ fp1, ∃ o, vs.get? a = some o) :
    ∃ own', Ctx h₀ s0 v0 fp g L own' v' ∧ Fr g L h' m ∧ News g L h' ((I, oI) :: own') ∧ ∀ q ∈ own', q.1 ≠ I := by
  refine Mine.byv fun P_ kP_ => ?_
  obtain ⟨own', Z', F', N'⟩ := Z.back F (News.pick N fun p hp => .tail _ hp) P hg al
  refine kP_ ?_
  clear kP_ P_
  have hI : I ∉ fp1 := fun q => by
    obtain ⟨o, e⟩ := al I q
    rcases (Z.look I o e).2 with e1 | e1
    · rw [hg I q] at e1; cases e1
    · exact absurd rfl (hno _ e1)
  obtain ⟨N2, hno'⟩ := iter_back Z Z' P (N _ (.head _)) hno hI nt N'
  exact ⟨own', Z', F', N2, hno'⟩
theorem Ctx.backI2 {I J : Addr} {oI oJ : Obj} (Z : Ctx h₀ s0 v0 fp g L own vs) (F : Fr g L h m) (N : News g L h ((J, oJ) :: (I, oI) :: own)) (hI : ∀ q ∈ own, q.1 ≠ I) (hJ : ∀ q ∈ own, q.1 ≠ J) (nI : ¬ IsTupO oI) (nJ : ¬ IsTupO oJ) (P : Post h vs v' h' fp1) (hg : ∀ a ∈ fp1, g.get? a = none) (al : ∀ a ∈ fp1, ∃ o, vs.get? a = some o) :
    ∃ own', Ctx h₀ s0 v0 fp g L own' v' ∧ Fr g L h' m ∧ News g L h' ((J, oJ) :: (I, oI) :: own') ∧ (∀ q ∈ own', q.1 ≠ I) ∧ ∀ q ∈ own', q.1 ≠ J := by
  refine Mine.byv fun P_ kP_ => ?_
  obtain ⟨own', Z', F', N'⟩ := Z.back F (News.pick N fun p hp => .tail _ (.tail _ hp)) P hg al
  refine kP_ ?_
  clear kP_ P_
  have hin : ∀ {I : Addr}, (∀ q ∈ own, q.1 ≠ I) → I ∉ fp1 := fun {I} hno q => by
    obtain ⟨o, e⟩ := al I q
    rcases (Z.look I o e).2 with e1 | e1
    · rw [hg I q] at e1; cases e1
    · exact absurd rfl (hno _ e1)
  refine Mine.byv fun P_ kP_ => ?_
  obtain ⟨N2, hI'⟩ := iter_back Z Z' P (N _ (.tail _ (.head _))) hI (hin hI) nI N'
  obtain ⟨N3, hJ'⟩ := iter_back Z Z' P (N _ (.head _)) hJ (hin hJ) nJ N'
  refine kP_ ?_
  clear kP_ P_
  refine ⟨own', Z', F', fun p hp => ?_, hI', hJ'⟩
  rcases Mine.mem_sym hp with rfl | hp
  · exact N3 _ (.head _)
  · exact N2 _ hp
theorem hno_cons {I : Addr} {a : Addr × Obj} {own : List (Addr × Obj)} (h : a.1 ≠ I) (hs : ∀ q ∈ own, q.1 ≠ I) : ∀ q ∈ a :: own, q.1 ≠ I := fun q hq => by
  rcases Mine.mem_sym hq with rfl | hq
  · exact h
  · exact hs q hq
theorem Same.widen {st st' : List Str} {m m1 m0 : Str → Option Value} (h : Same st m m1) (h' : Same st' m1 m0) (hs : ∀ z, st'.contains z = false → st.contains z = false) : Same st' m m0 := fun z hz => (h z (hs z hz)).trans (h' z hz)
theorem ne_iter {I a : Addr} {oI o : Obj} {news : List (Addr × Obj)} (N : News g L h news) (h1 : (a, o) ∈ news) (h2 : (I, oI) ∈ news) (hc : o.cls ≠ oI.cls) : a ≠ I := fun e => by
  have e1 := (N _ h1).1
  have e2 := (N _ h2).1
  (try dsimp only at e1 e2)
  rw [e, e2] at e1
  exact hc (congrArg Obj.cls (Option.some.inj e1)).symm
theorem lt_of_view (Z : Ctx h₀ s0 v0 fp g L own vs) {a k : Addr} {o : Obj} (hg : g.get? a = none) (e : vs.get? a = some o) (hl : ∀ p ∈ own, @LT.lt Nat _ p.1 k) : @LT.lt Nat _ a k := by
  rcases (Z.look a o e).2 with e1 | e1
  · rw [hg] at e1; cases e1
  · exact hl _ e1
end
theorem dat_len {l l' : List Dat} (hn : l.Nodup) (h : ∀ x ∈ l, x ∈ l') : l.length ≤ l'.length := by
  letI : DecidableEq Dat := fun a b => Classical.propDecidable (a = b)
  exact nodup_len hn h
section
variable {h₀ s0 v0 g vs v' h h' : Heap} {fp fp1 : List Addr} {L : Addr} {own news : List (Addr × Obj)} {m : Str → Option Value} {P0 : Prop}
theorem Ctx.backIK {I : Addr} {oI : Obj} (Z : Ctx h₀ s0 v0 fp g L own vs) (F : Fr g L h m) (N : News g L h ((I, oI) :: own)) (hno : ∀ q ∈ own, q.1 ≠ I) (nt : ¬ IsTupO oI) (P : Post h vs v' h' fp1) (hg : ∀ a ∈ fp1, g.get? a = none) (al : ∀ a ∈ fp1, ∃ o, vs.get? a = some o)
    (k : ∀ own', let mm : Str → Option Value := m; Ctx h₀ s0 v0 fp g L own' v' → Fr g L h' mm → News g L h' ((I, oI) :: own') → (∀ q ∈ own', q.1 ≠ I) → P0) : P0 := let ⟨own', a, b, c, d⟩ := Z.backI F N hno nt P hg al; k own' a b c d
end
/-- all places of a law just begun -/
noncomputable def adAll (A : Ad) (l : Addr) : List Addr := [A.W, A.d, A.C, A.Ln, A.G, A.P, A.R, A.K, A.Sn, A.Gt, A.S, l]
theorem gs_begin {A : Ad} {B : Bs} {l : Addr} (h1 : B.ps = []) (h2 : B.lp = none) (h3 : B.kl = [l]) {i : Nat} {a : Addr} (h : a ∈ gsOf A B i) : (i ≤ 10 ∨ i = 13) ∧ (adAll A l)[if i = 13 then 11 else i]? = some a := by
  unfold gsOf at h
  split at h
  all_goals first
    | (rw [List.mem_singleton.mp h]; exact ⟨.inl (by lia), rfl⟩)
    | (rw [h1] at h; cases h)
    | (rw [h2] at h; cases h)
    | (rw [h3] at h; rw [List.mem_singleton.mp h]; exact ⟨.inr rfl, rfl⟩)
    | cases h
theorem Geo.begin {h₀ : Heap} {A : Ad} {B : Bs} {l : Addr} (h1 : B.ps = []) (h2 : B.lp = none) (h3 : B.kl = [l]) (hn : (adAll A l).Nodup) (ho : ∀ a ∈ adAll A l, h₀.get? a = none) : Geo h₀ A B := by
  refine ⟨⟨fun i => ?_, fun i j hij a ha hb => ?_⟩, fun i a ha => ho a (List.mem_of_getElem? (gs_begin h1 h2 h3 ha).2)⟩
  · unfold gsOf
    split <;> simp [h1, h2, h3, allOf, lineAll]
  · obtain ⟨q1, e1⟩ := gs_begin h1 h2 h3 ha
    obtain ⟨q2, e2⟩ := gs_begin h1 h2 h3 hb
    have := (List.getElem?_inj (List.getElem?_eq_some_iff.mp e1).1 hn).mp (e1.trans e2.symm)
    split at this <;> split at this <;> lia
theorem dict_noList {w : World} {h : Heap} {a : Addr} {kvs : List (Int × Value)} (x : h.DictOf (intKind PG w) a kvs) {o : Obj} (e : h.get? a = some o) : o.cls ≠ .type "list" := by
  refine Mine.byv fun P_ kP_ => ?_
  obtain ⟨o', _, _, ho, hc, _⟩ := x
  refine kP_ ?_
  clear kP_ P_
  rw [ho] at e; cases e
  rw [hc.1]; decide
theorem PlacesAt.noList {w : World} {h : Heap} {P : Addr} {ps : List RwA} (x : PlacesAt w h P ps) {y : Addr} (hy : y ∈ allOf ps) {o : Obj} (e : h.get? y = some o) : o.cls ≠ .type "list" := by
  refine Mine.byv fun P_ kP_ => ?_
  obtain ⟨a, lo, b⟩ := x
  obtain ⟨r, hr, hy⟩ := List.mem_flatMap.mp hy
  obtain ⟨c, _, hp⟩ := b r hr
  refine kP_ ?_
  clear kP_ P_
  rcases Mine.mem_sym hy with rfl | hy
  · obtain ⟨o', _, _, ho, hc, _⟩ := c
    rw [ho] at e; cases e
    rw [hc.1]; decide
  · obtain ⟨q, hq, hy⟩ := List.mem_flatMap.mp hy
    refine Mine.byv fun P_ kP_ => ?_
    obtain ⟨_, ⟨t1, t2, I⟩, ⟨c, _⟩, d, _⟩ := hp q hq
    refine kP_ ?_
    clear kP_ P_
    simp only [PlA.all, List.mem_cons, List.not_mem_nil, or_false] at hy
    rcases hy with rfl | rfl | rfl | rfl
    · rw [I.at_] at e; cases e; simp [instObj]
    · have e1 := I.dict
      rw [show (instObj 94 q.dx).dict = some q.dx from rfl] at e1
      (try dsimp only at e1)
      rw [e1] at e; cases e; simp [placeD]
    · obtain ⟨kvs, c, _⟩ := c; exact dict_noList c e
    · obtain ⟨kvs, c, _⟩ := d; exact dict_noList c e
theorem Sit.fpNoTup {w : World} {h₀ v : Heap} {A : Ad} {B : Bs} {n m : Nat} (x : Sit w h₀ v A B n m) : NoTup v (fpAll A B) := by
  have al := x.F.noTup
  intro a ha
  simp only [fpAll, List.mem_append, List.mem_cons, List.not_mem_nil, or_false] at ha
  rcases ha with ((rfl | rfl | rfl | rfl | rfl | rfl | rfl | rfl | rfl) | ha) | ha
  · exact al 2 _ (.head _)
  · exact al 3 _ (.head _)
  · exact al 4 _ (.head _)
  · exact al 5 _ (.head _)
  · exact al 6 _ (.head _)
  · exact al 7 _ (.head _)
  · exact al 8 _ (.head _)
  · exact al 9 _ (.head _)
  · exact al 10 _ (.head _)
  · exact al 11 _ ha
  · exact al 12 _ (fpOf_all ha)
/-- the law's things, with what is due -/
structure Whole (w : World) (h₀ v : Heap) (A : Ad) (B : Bs) (n m : Nat) (Due : Addr) (due : List Dat) : Prop where
  S : Sit w h₀ v A B n m
  D : ListAt v Due due
  off : h₀.get? Due = none
  ne0 : Due ∉ [A.C, A.Ln, A.G, A.P, A.R, A.K, A.Sn, A.Gt, A.S]
  ne1 : Due ∉ [A.W, A.d]
  neL : Due ∉ lineAll B.lp
  neK : Due ∉ B.kl
section
variable {w : World} {h₀ v v' H h' : Heap} {A : Ad} {B B' : Bs} {n m n' m' : Nat} {Due : Addr} {due : List Dat}
theorem Whole.up (x : Whole w h₀ v A B n m Due due) (k : Sub v v') : Whole w h₀ v' A B n m Due due := ⟨x.S.up k, x.D.up k, x.off, x.ne0, x.ne1, x.neL, x.neK⟩
theorem Whole.mono (x : Whole w h₀ v A B n m Due due) (hn : n ≤ n') (hm : m ≤ m') : Whole w h₀ v A B n' m' Due due := ⟨x.S.mono hn hm, x.D, x.off, x.ne0, x.ne1, x.neL, x.neK⟩
theorem Whole.notIn (x : Whole w h₀ v A B n m Due due) : Due ∉ fpAll A B := fun q => by
  rcases List.mem_append.mp q with q | q
  · rcases List.mem_append.mp q with q | q
    · exact x.ne0 q
    · obtain ⟨_, _, e, _⟩ := x.D
      exact x.S.F.DP.noList q e rfl
  · exact x.neL (fpOf_all q)
theorem Whole.take (x : Whole w h₀ v A B n m Due due) (k : Keeps [A.S] v v') (DS : SrcI v' A.S) : Whole w h₀ v' A B n m Due due :=
  ⟨x.S.take k DS, x.D.keeps k (fun q => x.ne0 (by rw [List.mem_singleton.mp q]; simp)) x.S.F.DS.noTup, x.off, x.ne0, x.ne1, x.neL, x.neK⟩
theorem Whole.clocks (x : Whole w h₀ v A B n m Due due) (k : Keeps [A.C] v v') {cm' : Int → Option (List (Int × Int))} (DC : CM w v' A.C n' cm') : Whole w h₀ v' A { B with cm := cm' } n' m Due due :=
  ⟨x.S.clocks k DC, x.D.keeps k (fun q => x.ne0 (by rw [List.mem_singleton.mp q]; simp)) x.S.F.DC.noTup, x.off, x.ne0, x.ne1, x.neL, x.neK⟩
theorem Whole.neSet (x : Whole w h₀ v A B n m Due due) (V : Sub v H) {i : Nat} {D : Addr} (hD : H.get? D = none) : Due ∉ B.kl.set i D := fun q => by
  rcases List.mem_or_eq_of_mem_set q with q | q
  · exact x.neK q
  · obtain ⟨o, ho⟩ := x.D.alive
    rw [← q, V _ _ ho] at hD; cases hD
theorem Whole.know (x : Whole w h₀ v A B n m Due due) (V : Sub v H) (hH : Sub h₀ H) (k : Keeps [A.K] v v') {i : Nat} {D : Addr} {kn' : List (List (Int × Int))} (DK : KnownAt w v' A.K (B.kl.set i D) kn') (hD : H.get? D = none) : Whole w h₀ v' A { B with kl := B.kl.set i D, kn := kn' } n m Due due :=
  ⟨x.S.know V hH k DK hD, x.D.keeps k (fun q => x.ne0 (by rw [List.mem_singleton.mp q]; simp)) x.S.F.DK.noTup, x.off, x.ne0, x.ne1, x.neL, x.neSet V hD⟩
theorem Whole.born (x : Whole w h₀ v A B n m Due due) (k : Keeps [A.K] v v') {D : Addr} {kn' : List (List (Int × Int))} (DK : KnownAt w v' A.K (B.kl ++ [D]) kn') (hD1 : ∀ j, ∀ a ∈ gsOf A B j, a ≠ D) (hD2 : h₀.get? D = none) (hD3 : Due ≠ D) : Whole w h₀ v' A { B with kl := B.kl ++ [D], kn := kn' } n m Due due :=
  ⟨x.S.born k DK (fun q => hD1 13 D q rfl) hD1 hD2, x.D.keeps k (fun q => x.ne0 (by rw [List.mem_singleton.mp q]; simp)) x.S.F.DK.noTup, x.off, x.ne0, x.ne1, x.neL, fun q => (List.mem_append.mp q).elim x.neK fun q => hD3 (List.mem_singleton.mp q)⟩
theorem Whole.deed (x : Whole w h₀ v A B n m Due due) (V : Sub v H) (k : Keeps (fpAll A B) v v') (S' : Sit w h₀ v' A B' n' m') (hlp : B'.lp = B.lp ∨ (B.lp = none ∧ ∀ x ∈ lineAll B'.lp, H.get? x = none)) (hkl : ∀ a ∈ B'.kl, a ∈ B.kl ∨ H.get? a = none) : Whole w h₀ v' A B' n' m' Due due := by
  obtain ⟨o, ho⟩ := x.D.alive
  refine ⟨S', x.D.keeps k x.notIn x.S.fpNoTup, x.off, x.ne0, x.ne1, fun q => ?_, fun q => ?_⟩
  · rcases hlp with e | ⟨_, e⟩
    · rw [e] at q; exact x.neL q
    · have := e Due q
      rw [V _ _ ho] at this; cases this
  · rcases hkl _ q with e | e
    · exact x.neK e
    · rw [V _ _ ho] at e; cases e
theorem Whole.ne (x : Whole w h₀ v A B n m Due due) : ∀ j, ∀ a ∈ gsOf A B j, a ≠ Due := fun j a ha q => by
  subst q
  have h0 := x.ne0
  have h1 := x.ne1
  simp only [List.mem_cons, List.not_mem_nil, or_false, not_or] at h0 h1
  refine Mine.byv fun P_ kP_ => ?_
  obtain ⟨_, _, e, _⟩ := x.D
  refine kP_ ?_
  clear kP_ P_
  unfold gsOf at ha
  split at ha
  · exact h1.1 (List.mem_singleton.mp ha)
  · exact h1.2 (List.mem_singleton.mp ha)
  · exact h0.1 (List.mem_singleton.mp ha)
  · exact h0.2.1 (List.mem_singleton.mp ha)
  · exact h0.2.2.1 (List.mem_singleton.mp ha)
  · exact h0.2.2.2.1 (List.mem_singleton.mp ha)
  · exact h0.2.2.2.2.1 (List.mem_singleton.mp ha)
  · exact h0.2.2.2.2.2.1 (List.mem_singleton.mp ha)
  · exact h0.2.2.2.2.2.2.1 (List.mem_singleton.mp ha)
  · exact h0.2.2.2.2.2.2.2.1 (List.mem_singleton.mp ha)
  · exact h0.2.2.2.2.2.2.2.2 (List.mem_singleton.mp ha)
  · exact x.S.F.DP.noList ha e rfl
  · exact x.neL ha
  · exact x.neK ha
  · cases ha
theorem Whole.dueSet (x : Whole w h₀ v A B n m Due due) (k : Keeps [Due] v v') {due' : List Dat} (D' : ListAt v' Due due') : Whole w h₀ v' A B n m Due due' := by
  have M : Mv A B [] [Due] v v' := ⟨k, x.D.noTup, fun i _ a ha q => x.ne i a ha (List.mem_singleton.mp q)⟩
  have f := x.S.F
  exact ⟨⟨⟨f.kI M (by decide) (by decide), f.kDC M (by decide), f.kDL M (by decide) (by decide), f.kDG M (by decide), f.kDP M (by decide) (by decide), f.kDR M (by decide), f.kDK M (by decide) (by decide), f.kDSn M (by decide), f.kDGt M (by decide), f.kDS M (by decide)⟩, x.S.G⟩, D', x.off, x.ne0, x.ne1, x.neL, x.neK⟩
end
/-- while the goroutines are begun -/
structure Kids (B : Bs) (N : Nat) : Prop where
  kl : B.kl.length = N
  ps : B.ps = []
  lp : B.lp = none
  rs : B.rs = []
  seen : B.seen = []
  gates : B.gates = []
  gm : B.gm = fun _ => none
  ck : ∀ x c, B.cm x = some c → KOk c
  hi : ∀ x : Int, (N : Int) ≤ x → B.cm x = none
  sm : 2 ≤ N → ∀ g : Nat, g < N → ∃ c, B.cm g = some c
  inv : Inv N N (cc B.cm) (fun _ => 0) (fun _ _ _ => 0) (fun _ _ _ => 0) B.kn [] []
theorem Inv.ext {N : Nat} {b : Int} {c c' : Int → Int → Int} {gc : Int → Int} {wf rf : Int → List Int → Int → Int} {kn : List (List (Int × Int))} {gates : List (Int × Int)} {seen : List SeenR} (I : Inv N b c gc wf rf kn gates seen) (h : ∀ g : Nat, g < N → c' g = c g) : Inv N b c' gc wf rf kn gates seen := by
  have lt : ∀ {g : Nat} {sp : List (Int × Int)}, kn[g]? = some sp → g < N := fun e => by
    have := (List.getElem?_eq_some_iff.mp e).1
    rw [I.len] at this; exact this
  refine ⟨I.len, fun g x hg => by rw [h g hg]; exact I.nn g x hg, I.gnn, fun g sp e => by rw [h g (lt e)]; exact I.know g sp e, fun g sp e => by rw [h g (lt e)]; exact I.own g sp e, fun a b ha hb => by rw [h a ha, h b hb]; exact I.top a b ha hb, fun g hg => by rw [h g hg]; exact I.gtop g hg, I.gate, fun g hg => by rw [h g hg]; exact I.bnd g hg, fun g x hg hx => by rw [h g hg]; exact I.out g x hg hx, I.gout, fun g hg => by rw [h g hg]; exact I.pos g hg, fun r hr => ?_, I.wfs, I.rfs⟩
  refine Mine.byv fun P_ kP_ => ?_
  obtain ⟨n, a1, a2, a3, a4, a5⟩ := I.sok r hr
  refine kP_ ?_
  clear kP_ P_
  refine ⟨n, a1, a2, a3, a4, ?_⟩
  rw [a2] at a5 ⊢
  rw [h n a1]; exact a5
noncomputable def bsBegin (l : Addr) : Bs := ⟨none, [], [l], fun _ => none, fun _ => none, [], [[(0, 1)]], [], []⟩
theorem Kids.start (l : Addr) : Kids (bsBegin l) 1 :=
  ⟨rfl, rfl, rfl, rfl, rfl, rfl, rfl, fun _ _ e => (by cases e), fun _ _ => rfl, fun h => absurd h (by (first | exact ar146 | lia)), Inv.start.ext fun g hg => by
    obtain rfl : g = 0 := by (first | exact ar11 hg | lia)
    funext x
    show cnt [((0 : Int), 1)] x = if x = 0 then 1 else 0
    unfold cnt
    by_cases q : (0 : Int) = x
    · rw [if_pos q, if_pos q.symm]
    · rw [if_neg q, if_neg (fun e => q e.symm)]; rfl⟩
theorem Kids.cOk {B : Bs} {N : Nat} (k : Kids B N) {g : Nat} (hg : g < 4) : KOk (cOf B.cm g) := by
  unfold cOf
  cases q : B.cm g with
  | none => exact KOk.one (by (first | exact ar224 hg | lia)) (by (first | exact ar6 | lia))
  | some c => exact k.ck _ c q
theorem Kids.step {B : Bs} {N : Nat} (k : Kids B N) (h1 : 1 ≤ N) (h3 : N ≤ 3) {sp : List (Int × Int)} (e : B.kn[0]? = some sp) {c1 c2 : List (Int × Int)} (hc1 : TickOf c1 (cOf B.cm 0) 0) (hc2 : JoinOf c2 [((N : Int), 1)] (cOf B.cm 0)) {kl' : List Addr} (hl : kl'.length = N + 1) :
    Kids { B with cm := upd (upd B.cm 0 c1) N c2, kl := kl', kn := ((B.kn ++ [[((N : Int), 1)]]).set 0 (sp ++ [((0 : Int), (((sp.filter fun q : Int × Int => decide (q.1 = (0 : Int))).length : Nat) : Int) + 1)])).set N (moreS [((N : Int), 1)] sp) } (N + 1) := by
  have hkn : B.kn.length = N := k.inv.len
  have many : (((sp.filter fun q => decide (q.1 = (0 : Int))).length : Nat) : Int) = cc B.cm 0 0 := by
    have := k.inv.own 0 sp e
    rw [show ((0 : Nat) : Int) = 0 from rfl] at this
    rw [this, ownS_len]
    have := k.inv.nn 0 0 (by (first | exact ar10 h1 | lia))
    rw [show ((0 : Nat) : Int) = 0 from rfl] at this
    lia
  have hN0 : (N : Int) ≠ 0 := by (first | exact ar208 h1 | lia)
  have I1 := k.inv.born (f := fun x => if x = (N : Int) then 1 else 0) (fun x => rfl) (by (first | exact ar212 h1 | lia))
  have I2 := I1.tell (g := 0) (sp := sp) (by rw [List.getElem?_append_left (by (first | exact ar75 h1 hkn | lia))]; exact e)
  have I3 := I2.learn (g := N) (sp := [((N : Int), 1)]) (more := sp) (f := cc B.cm 0) (by
      rw [List.getElem?_set_ne (by (first | exact ar211 h1 | lia)), List.getElem?_append_right (by (first | exact ar300 hkn | lia)), hkn]; simp) (k.inv.know 0 sp e) (fun h hh => by
      by_cases q : h < N
      · have t1 := k.inv.top h 0 q (by (first | exact ar10 h1 | lia))
        rw [show ((0 : Nat) : Int) = 0 from rfl] at t1 ⊢
        have qN : (h : Int) ≠ N := by (first | exact ar80 q | lia)
        have q0N : (0 : Int) ≠ N := by (first | exact ar210 h1 | lia)
        by_cases q0 : (h : Int) = 0
        · rw [q0, updc_at]
          simp only [if_true]
          rw [updc_ne _ _ q0N]; (first | exact ar9 | lia)
        · rw [updc_ne _ _ q0, updc_ne _ _ qN]; exact t1
      · have o1 := k.inv.out 0 h (by (first | exact ar10 h1 | lia)) (by (first | exact ar327 q | lia))
        have o1 : cc B.cm 0 h = 0 := o1
        obtain rfl : h = N := by (first | exact ar0 hh q | lia)
        rw [o1, show ((0 : Nat) : Int) = 0 from rfl, updc_ne _ _ hN0, updc_at]
        simp) (fun x hx => k.inv.out 0 x (by (first | exact ar10 h1 | lia)) (by (first | exact ar23 hx | lia)))
  have hup0 : ∀ x : Int, (x : Int) ≠ 0 → x ≠ N → upd (upd B.cm 0 c1) N c2 x = B.cm x := fun x a b => by
    rw [upd, if_neg b, upd, if_neg a]
  refine ⟨hl, k.ps, k.lp, k.rs, k.seen, k.gates, k.gm, fun x c hx => ?_, fun x hx => ?_, fun _ g hg => ?_, ?_⟩
  · show KOk c
    have hx : upd (upd B.cm 0 c1) N c2 x = some c := hx
    unfold upd at hx
    split at hx
    · cases hx; exact hc2.1
    · split at hx
      · cases hx; exact hc1.1
      · exact k.ck x c hx
  · show upd (upd B.cm 0 c1) N c2 x = none
    rw [hup0 x (by lia) (by (first | exact ar242 hx | lia))]
    exact k.hi x (by (first | exact ar241 hx | lia))
  · show ∃ c, upd (upd B.cm 0 c1) N c2 g = some c
    by_cases q : g = N
    · cases q; exact ⟨c2, upd_at _ _ _⟩
    · by_cases q0 : g = 0
      · cases q0
        refine ⟨c1, ?_⟩
        rw [upd, if_neg (by (first | exact ar213 h1 | lia))]
        exact upd_at _ _ _
      · rw [hup0 g (by (first | exact ar239 q0 | lia)) (by (first | exact ar329 q | lia))]
        exact k.sm (by (first | exact ar289 hg q q0 | lia)) g (by (first | exact ar288 hg q | lia))
  · show Inv (N + 1) ((N + 1 : Nat) : Int) (cc (upd (upd B.cm 0 c1) N c2)) _ _ _ _ [] []
    rw [many]
    have eN : (((N : Nat) : Int)) = (N : Int) := rfl
    have e0 : updc (cc B.cm) (N : Int) (fun x => if x = (N : Int) then 1 else 0) (0 : Int) = cc B.cm 0 := updc_ne _ _ (Ne.symm hN0)
    rw [show ((0 : Nat) : Int) = 0 from rfl] at I3
    rw [e0] at I3
    refine (I3.mono (by push_cast; (first | exact ar187 | lia))).congr ?_
    rw [cc_upd, cc_upd]
    funext a y
    by_cases q : a = (N : Int)
    · cases q
      rw [updc_at, updc_at, updc_ne _ _ hN0, updc_at, hc2.2 y]
      show max (if y = (N : Int) then 1 else 0) (cc B.cm 0 y) = max (cnt [((N : Int), 1)] y) (cnt (cOf B.cm 0) y)
      congr 1
      unfold cnt
      by_cases q : (N : Int) = y
      · rw [if_pos q, if_pos q.symm]
      · rw [if_neg q, if_neg (fun e => q e.symm)]; rfl
    · rw [updc_ne _ _ q, updc_ne _ _ q]
      by_cases q0 : a = 0
      · cases q0
        rw [updc_at, updc_at, hc1.2 y]
        rfl
      · rw [updc_ne _ _ q0, updc_ne _ _ q0, updc_ne _ _ q]
theorem Kids.num {B : Bs} {N : Nat} (k : Kids B N) (h2 : 2 ≤ N) (h4 : N ≤ 4) : Num B 0 := by
  have ewf : Wf B.ps = fun _ _ _ => 0 := by rw [k.ps]; rfl
  have erf : Rf B.ps = fun _ _ _ => 0 := by rw [k.ps]; rfl
  have egg : gg B.gm = fun _ => 0 := by rw [k.gm]; rfl
  refine ⟨by rw [k.kl]; exact h2, by rw [k.kl]; exact h4, by rw [k.kl]; exact k.inv.len.symm, (by rw [k.ps]; exact ⟨by simp, fun r hr => (by cases hr)⟩), (by rw [k.rs]; simp), (by rw [k.rs]; exact fun d hd => (by cases hd)), (by rw [k.rs]; exact List.nodup_nil), (by rw [k.seen]; simp), (by rw [k.seen]; exact fun d hd => (by cases hd)), fun g hg => ?_, by rw [k.gm]; exact KOk.nil, ?_⟩
  · rw [k.kl] at hg
    obtain ⟨c, e⟩ := k.sm h2 g hg
    exact ⟨c, e, k.ck _ c e⟩
  · rw [k.kl, ewf, erf, egg, k.gates, k.seen]
    exact k.inv.mono (by push_cast; (first | exact ar235 h4 | lia))
theorem Whole.begin {w : World} {h₀ v : Heap} {A : Ad} {L0 Due : Addr} {t1 t2 t3 t4 t5 : Tok} (h7 : [A.W, A.d, A.C, A.Ln, A.G, A.P, A.R].Nodup) (lt7 : ∀ a ∈ [A.W, A.d, A.C, A.Ln, A.G, A.P, A.R], @LT.lt Nat _ a A.K) (ltS : @LT.lt Nat _ A.S A.K)
    (nS : ∀ a ∈ [A.W, A.d, A.C, A.Ln, A.G, A.P, A.R], a ≠ A.S) (l1 : @LT.lt Nat _ A.K L0) (l2 : @LT.lt Nat _ L0 A.Sn) (l3 : @LT.lt Nat _ A.Sn A.Gt) (l4 : @LT.lt Nat _ A.Gt Due) (off : ∀ a ∈ adAll A L0, h₀.get? a = none) (offD : h₀.get? Due = none)
    (eW : v.get? A.W = some (instObj 227 A.d)) (ed : v.get? A.d = some (watchD w t1 t2 t3 t4 t5 A.C A.Ln A.G A.P A.R)) (hD : ∀ a ∈ [A.C, A.Ln, A.G, A.P], v.DictOf (intKind PG w) a [] ∧ (a == sysModules) = false) (eR : v.get? A.R = some (PySem.W.listOf #[] 0))
    (hK : v.DictOf (intKind PG w) A.K [(0, .ref L0)]) (loK : (A.K == sysModules) = false) (hL : ListAt v L0 [spanD (0, 1)]) (eSn : v.get? A.Sn = some (PySem.W.listOf #[] 0)) (eGt : v.get? A.Gt = some (PySem.W.listOf #[] 0)) (eDue : v.get? Due = some (PySem.W.listOf #[] 0)) (DS : SrcI v A.S) :
    Whole w h₀ v A (bsBegin L0) 0 0 Due [] := by
  have cm0 : ∀ a ∈ [A.C, A.Ln, A.G, A.P], CM w v a 0 (fun _ => none) := fun a ha => ⟨[], (hD a ha).1, Nat.le_refl _, (hD a ha).2, fun _ => .inl ⟨rfl, rfl⟩⟩
  have k2 := Nat.lt_trans l1 l2
  have k3 := Nat.lt_trans k2 l3
  have k4 := Nat.lt_trans k3 l4
  have m2 := Nat.lt_trans l2 l3
  have m3 := Nat.lt_trans m2 l4
  have n3 := Nat.lt_trans l3 l4
  have lt7D : ∀ a ∈ [A.W, A.d, A.C, A.Ln, A.G, A.P, A.R], a ≠ Due := fun a ha => Nat.ne_of_lt (Nat.lt_trans (lt7 a ha) k4)
  have hn : (adAll A L0).Nodup := by
    refine List.nodup_append (l₁ := [A.W, A.d, A.C, A.Ln, A.G, A.P, A.R]) (l₂ := [A.K, A.Sn, A.Gt, A.S, L0]) |>.mpr ⟨h7, ?_, fun a ha b hb => ?_⟩
    · simp only [List.nodup_cons, List.mem_cons, List.not_mem_nil, or_false, not_or, not_false_eq_true, List.nodup_nil, and_true]
      exact ⟨⟨Nat.ne_of_lt k2, Nat.ne_of_lt k3, Ne.symm (Nat.ne_of_lt ltS), Nat.ne_of_lt l1⟩, ⟨Nat.ne_of_lt l3, Ne.symm (Nat.ne_of_lt (Nat.lt_trans ltS k2)), Ne.symm (Nat.ne_of_lt l2)⟩, ⟨Ne.symm (Nat.ne_of_lt (Nat.lt_trans ltS k3)), Ne.symm (Nat.ne_of_lt m2)⟩, Nat.ne_of_lt (Nat.lt_trans ltS l1)⟩
    · have := lt7 a ha
      simp only [List.mem_cons, List.not_mem_nil, or_false] at hb
      rcases hb with rfl | rfl | rfl | rfl | rfl
      · exact Nat.ne_of_lt this
      · exact Nat.ne_of_lt (Nat.lt_trans this k2)
      · exact Nat.ne_of_lt (Nat.lt_trans this k3)
      · exact nS a ha
      · exact Nat.ne_of_lt (Nat.lt_trans this l1)
  have em : ∀ {a : Addr}, v.get? a = some (PySem.W.listOf #[] 0) → ListAt v a [] := fun e => ⟨[], 0, e, DatsH.nil _⟩
  refine ⟨⟨⟨⟨t1, t2, t3, t4, t5, ⟨eW, rfl, rfl, ed⟩⟩, cm0 _ (by first | exact nin_nil | exact all_nil | ((repeat (first | exact .head _ | refine .tail _ ?_)); done) | simp), ⟨(hD A.Ln (by first | exact nin_nil | exact all_nil | ((repeat (first | exact .head _ | refine .tail _ ?_)); done) | simp)).2, (hD A.Ln (by first | exact nin_nil | exact all_nil | ((repeat (first | exact .head _ | refine .tail _ ?_)); done) | simp)).1⟩, cm0 _ (by first | exact nin_nil | exact all_nil | ((repeat (first | exact .head _ | refine .tail _ ?_)); done) | simp), ⟨(hD A.P (by first | exact nin_nil | exact all_nil | ((repeat (first | exact .head _ | refine .tail _ ?_)); done) | simp)).1, (hD A.P (by first | exact nin_nil | exact all_nil | ((repeat (first | exact .head _ | refine .tail _ ?_)); done) | simp)).2, fun r hr => (by cases hr)⟩, ⟨[], 0, eR, DatsH.nil _⟩,
    ⟨loK, rfl, ⟨[(0, .ref L0)], hK, rfl, fun x => ?_⟩, fun i l sp h1 h2 => ?_⟩, em eSn, em eGt, DS⟩, Geo.begin rfl rfl rfl hn off⟩, em eDue, offD, ?_, ?_, (fun q => by cases q), ?_⟩
  · unfold valueAt
    by_cases q : x = 0
    · cases q; rfl
    · have q' : ¬ (0 : Int) = x := fun e => q e.symm
      by_cases q2 : 0 ≤ x
      · rw [if_pos q2]
        have : x.toNat = (x.toNat - 1) + 1 := by lia
        show _ = ([L0][x.toNat]?).map Value.ref
        rw [this]
        simp [q']
      · rw [if_neg q2]; simp [q']
  · cases i with
    | zero =>
      have h1 : some L0 = some l := h1
      have h2 : some [((0 : Int), (1 : Int))] = some sp := h2
      cases h1; cases h2
      exact hL
    | succ i => cases h1
  · have d2 := lt7D A.C (by first | exact nin_nil | exact all_nil | ((repeat (first | exact .head _ | refine .tail _ ?_)); done) | simp)
    have d3 := lt7D A.Ln (by first | exact nin_nil | exact all_nil | ((repeat (first | exact .head _ | refine .tail _ ?_)); done) | simp)
    have d4 := lt7D A.G (by first | exact nin_nil | exact all_nil | ((repeat (first | exact .head _ | refine .tail _ ?_)); done) | simp)
    have d5 := lt7D A.P (by first | exact nin_nil | exact all_nil | ((repeat (first | exact .head _ | refine .tail _ ?_)); done) | simp)
    have d6 := lt7D A.R (by first | exact nin_nil | exact all_nil | ((repeat (first | exact .head _ | refine .tail _ ?_)); done) | simp)
    simp only [List.mem_cons, List.not_mem_nil, or_false, not_or]
    exact ⟨Ne.symm d2, Ne.symm d3, Ne.symm d4, Ne.symm d5, Ne.symm d6, Ne.symm (Nat.ne_of_lt k4), Ne.symm (Nat.ne_of_lt n3), Ne.symm (Nat.ne_of_lt l4), Ne.symm (Nat.ne_of_lt (Nat.lt_trans ltS k4))⟩
  · simp only [List.mem_cons, List.not_mem_nil, or_false, not_or]
    exact ⟨Ne.symm (lt7D A.W (by first | exact nin_nil | exact all_nil | ((repeat (first | exact .head _ | refine .tail _ ?_)); done) | simp)), Ne.symm (lt7D A.d (by first | exact nin_nil | exact all_nil | ((repeat (first | exact .head _ | refine .tail _ ?_)); done) | simp))⟩
  · show Due ∉ [L0]
    simpa using Ne.symm (Nat.ne_of_lt m3)
section
local macro_rules | `(tactic| walk_at "Kut next") => `(tactic| refine kut_next (by assumption) ?_)
theorem room0 {n a b c : Nat} (h : n + b < c) (e : Nat.ble a b = true := by rfl) : n + a < c := Nat.lt_of_le_of_lt (Nat.add_le_add_left (Nat.le_of_ble_eq_true e) n) h
theorem env_let {M : Model} {A : Around} {body : List Stmt} {env : Env} {Q : Flow → Shared → Prop} {E : Value → Shared → Prop} {s : Shared} (k : let e : Env := env; wpAny M A (execs body e) Q E s) : wpAny M A (execs body env) Q E s := k
theorem with_around {α : Type} {M : Model} {env : Env} {t : Sem α} {Q : α → Shared → Prop} {E : Value → Shared → Prop} {s : Shared} (h : ∀ dp fr gd un, dp + 100 < recursionLimit → un + 1000 < cLine → let A' : Around := Ar dp fr gd un; wpAny M A' t Q E s) : wpAny M (callerA.deeper env) t Q E s := by
  refine h _ _ _ _ ?_ ?_
  · show 1 + claimMargin + 1 + 100 < recursionLimit
    decide
  · show 4 + 3 + 1000 < 9900
    decide
theorem Ctx.base (h : Heap) : Ctx h h h [] h h.objs.size [] h :=
  ⟨fun _ _ _ e => e, Sub.refl h, fun _ ha => (by cases ha), fun _ ha => (by cases ha), Sub.refl h, fun _ _ _ e => e, fun b o e => .inl ⟨o, e⟩, Sub.refl h, Sub.refl h, fun b o e => ⟨Nat.ne_of_lt (Heap.lt_size e), .inl e⟩, fun _ hp => (by cases hp)⟩
theorem law_post (ns : List Int) : PySem.Challenge.rw_on0014_01.row.claim.post [ofPy (PyData.list (List.map PyData.int ns))] (WData.bool true) [ofPy (PyData.list (List.map PyData.int ns))] = true := by
  have e : same (WData.bool true) (WData.bool true) = true := same_self _
  show (WShape.has [] (WData.bool true) WShape.bool && WTm.holds [] (WTm.res.eq (WTm.lit (WData.bool true))) { args := [ofPy (PyData.list (List.map PyData.int ns))], res := some (WData.bool true), after := [ofPy (PyData.list (List.map PyData.int ns))] }) = true
  refine Bool.and_eq_true_iff.mpr ⟨?_, ?_⟩
  · simp [WShape.has, WShape.arms]
  · simp [WTm.holds, WTm.value, e]
local macro_rules | `(tactic| k_qdec) => `(tactic| decide +kernel)
local macro_rules | `(tactic| walk_at "exec For Name Call cons nil") => `(tactic| k_dflt (refine' seq_goL rfl ?_))
local macro_rules | `(tactic| walk_at "exec For Name Call") => `(tactic| k_dflt (refine' seq_goL rfl ?_))
local macro_rules | `(tactic| walk_at "exec For") => `(tactic| k_dflt (refine' seq_goL rfl ?_))
inductive LawJ1 (w : World) (h0 : Heap) (A : Ad) (Due : Addr) (m0 : Str → Option Value) (i : Nat) (m : Str → Option Value) (own : List (Addr × Obj)) : Prop
  | mk (v : Heap) (B : Bs) (Z : Ctx h0 h0 h0 [] h0 h0.objs.size own v) (W : Whole w h0 v A B (4 * i) 0 Due []) (K : Kids B (i + 1)) (hm : Same ["child"] m m0)
inductive LawJ2 (w : World) (h0 : Heap) (A : Ad) (Due : Addr) (m0 : Str → Option Value) (i : Nat) (m : Str → Option Value) (own : List (Addr × Obj)) : Prop
  | mk (v : Heap) (B : Bs) (due : List Dat) (Z : Ctx h0 h0 h0 [] h0 h0.objs.size own v) (W : Whole w h0 v A B (20 + 40 * i) i Due due) (N : Num B i) (nd : due.Nodup) (mem : ∀ d, d ∈ due ↔ d ∈ B.rs) (hm : Same ["turn", "row"] m m0)
inductive LawJ3 (w : World) (h0 : Heap) (A : Ad) (Due : Addr) (B' : Bs) (i : Nat) (I : Addr) (oI : Obj) (r : Addr) (rvs : List Value) (rn : Nat) (rows due : List Dat) (m0 : Str → Option Value) (j : Nat) (mm : Str → Option Value) (own_ : List (Addr × Obj)) : Prop
  | mk (own_i : List (Addr × Obj)) (v2 : Heap) (due2 : List Dat) (e : own_ = (I, oI) :: own_i) (hI : ∀ q ∈ own_i, q.1 ≠ I) (Z : Ctx h0 h0 h0 [] h0 h0.objs.size own_i v2) (W : Whole w h0 v2 A B' (20 + 40 * (i + 1)) (i + 1) Due due2) (er : v2.get? r = some (PySem.W.listOf rvs.toArray rn)) (hr : DatsH v2 rvs rows) (nd : due2.Nodup) (mem : ∀ d, d ∈ due2 ↔ d ∈ due ∨ d ∈ rows.take j) (hm : Same ["row"] mm m0)
theorem law_holds : PySem.Challenge.rw_on0014_01.Holds := hd (by
  k_go0
  rename_i w s₀ s₁ mg mb G Y fa o pm doc kV ho hg KX X V GL T B TE TW w9 w8 M w7 w6 hcd ns hs hlay0 hL1 hr1 hl2 w4 w3 a vs w0 hL ra w1 r0 hI hr hc1 hc K0 hD h₁ F N0
  have TT := topRead_of T
  refine wpAny_mono (Q := fun fl s' => fl = .ret (.bool true) ∧ ∃ h' tk m, s' = ⟨h', s₁.gens, s₁.drawn, tk, s₁.os⟩ ∧ Fr s₁.heap s₁.heap.objs.size h' m) (E := fun _ _ => False) ?main ?q ?err
  case q =>
    intro _ _ hp2_
    refine Mine.byv fun P_ kP_ => ?_
    obtain ⟨rfl, h', tk, m, rfl, F2⟩ := hp2_
    refine kP_ ?_
    clear kP_ P_
    exact ⟨.inl ⟨.bool true, .bool true, [], rfl, fun _ => rfl, .bool true, law_post ns, fun _ => ⟨List.nodup_nil, fun a ha => by cases ha⟩⟩, F2.keep, rfl, hg⟩
  case err => exact fun _ _ h => h.elim
  refine with_around fun dp fr gd un hdp hun => ?_
  intro A'
  (try (refine env_let ?_; intro e_))
  (try (refine Mine.wp_let ?_; intro sQ0_))
  clear G Y X V GL B TE TW M hcd hs hlay0 hL1 hr1 hl2 ra w1 r0 hr hc K0 hD ho
  have hlen : vs.length ≤ 63 := by
    have := hI.length
    (first | exact ar326 hc1 this | omega)
  have Z := Ctx.base s₁.heap
  iterate 7 walk1
  rename Fr s₁.heap _ _ _ => F1
  rename News s₁.heap _ _ [] => N1
  refine fixed_call KX TT Z.H (Z.sub F1 N1 fun _ h => h) (Mine.room0 hdp) (Mine.room0 hun) fun v1 h1 tk1 P1 => ?_
  refine Z.backK F1 N1 P1 (by first | exact nin_nil | exact all_nil | ((repeat (first | exact .head _ | refine .tail _ ?_)); done) | simp) (by first | exact nin_nil | exact all_nil | ((repeat (first | exact .head _ | refine .tail _ ?_)); done) | simp) ?_
  intro own1 mm_ Z1  F2  N2
  (try (refine Mine.wp_let ?_; intro sQ59_))
  (try clear F1); (try clear N1); (try clear F); (try clear N0)
  iterate 15 walk1
  rename Fr s₁.heap _ _ _ => F3
  rename News s₁.heap _ _ own1 => N3
  refine pool_call KX TT Z1.H (Z1.sub F3 N3 fun _ h => h) (Mine.room0 hdp) (Mine.room0 hun) (isList_up hL (Fr.toSub F3)) (by (first | exact ar236 hlen | omega)) hI fun S ia ib ta tb h2 tk2 k2 nS eS => ?_
  refine Z1.pureK F3 N3 k2 ?_
  intro v2 own2 mm_ Z2  F4  N4  kv2  kh2  _  hnew2
  (try (refine Mine.wp_let ?_; intro sQ60_))
  have gS : s₁.heap.get? S = none := none_of (Fr.toSub F3) nS
  have DS2 : SrcI v2 S := ⟨ia, ib, ta, tb, hnew2 _ _ eS nS⟩
  (try clear F2); (try clear N2); (try clear F3); (try clear N3)
  iterate 10 walk1
  rename Fr s₁.heap _ _ _ => F5
  rename News s₁.heap _ _ own2 => N5
  refine watch_new KX TT (Z2.H.trans (Z2.sub F5 N5 fun _ h => h)) (Mine.room0 hdp) (Mine.room0 hun) fun W d C Ln G P R t1 t2 t3 t4 t5 h3 tk3 k3 hno ndW eW ed hD eR => ?_
  apply Z2.pureK F5 N5 k3
  intro v3 own3 mm_ Z3  F6  N6  kv3  kh3  hall  hnew
  (try (refine Mine.wp_let ?_; intro sQ61_))
  have gno : ∀ a ∈ [W, d, C, Ln, G, P, R], s₁.heap.get? a = none := fun a ha => none_of (Fr.toSub F5) (hno a ha)
  have nS7 : ∀ a ∈ [W, d, C, Ln, G, P, R], a ≠ S := fun a ha q => by
    obtain ⟨o, e⟩ := DS2.alive
    have e1 := hno a ha
    have e2 := Z2.sub F5 N5 (fun _ h => h) _ _ e
    (try dsimp only at e1)
    rw [q, e2] at e1; cases e1
  have eW3 := hnew _ _ eW (hno W (by first | exact nin_nil | exact all_nil | ((repeat (first | exact .head _ | refine .tail _ ?_)); done) | simp))
  have ed3 := hnew _ _ ed (hno d (by first | exact nin_nil | exact all_nil | ((repeat (first | exact .head _ | refine .tail _ ?_)); done) | simp))
  have eR3 := hnew _ _ eR (hno R (by first | exact nin_nil | exact all_nil | ((repeat (first | exact .head _ | refine .tail _ ?_)); done) | simp))
  have hD3 : ∀ a ∈ [C, Ln, G, P], v3.DictOf (intKind PG w) a [] ∧ (a == sysModules) = false := fun a ha => by
    refine Mine.byv fun P_ kP_ => ?_
    obtain ⟨D, lo⟩ := hD a ha
    obtain ⟨o, ho, hO⟩ := Heap.dictOf_iff.mp D
    refine kP_ ?_
    clear kP_ P_
    exact ⟨Heap.dictOf_iff.mpr ⟨o, hnew _ _ ho (hno a (by
      simp only [List.mem_cons, List.not_mem_nil, or_false] at ha ⊢
      rcases ha with q | q | q | q <;> simp [q])), hO⟩, lo⟩
  have av : ∀ a ∈ [W, d, C, Ln, G, P, R], ∃ o, v3.get? a = some o := fun a ha => by
    simp only [List.mem_cons, List.not_mem_nil, or_false] at ha
    rcases ha with q_ | q_ | q_ | q_ | q_ | q_ | q_
    · cases q_; exact ⟨_, eW3⟩
    · cases q_; exact ⟨_, ed3⟩
    · cases q_; exact let ⟨o, _, _, ho, _⟩ := (hD3 C (by first | exact nin_nil | exact all_nil | ((repeat (first | exact .head _ | refine .tail _ ?_)); done) | simp)).1; ⟨o, ho⟩
    · cases q_; exact let ⟨o, _, _, ho, _⟩ := (hD3 Ln (by first | exact nin_nil | exact all_nil | ((repeat (first | exact .head _ | refine .tail _ ?_)); done) | simp)).1; ⟨o, ho⟩
    · cases q_; exact let ⟨o, _, _, ho, _⟩ := (hD3 G (by first | exact nin_nil | exact all_nil | ((repeat (first | exact .head _ | refine .tail _ ?_)); done) | simp)).1; ⟨o, ho⟩
    · cases q_; exact let ⟨o, _, _, ho, _⟩ := (hD3 P (by first | exact nin_nil | exact all_nil | ((repeat (first | exact .head _ | refine .tail _ ?_)); done) | simp)).1; ⟨o, ho⟩
    · cases q_; exact ⟨_, eR3⟩
  have DS3 := DS2.up kv3
  clear hall hnew hno hD eW ed eR k3 hnew2 DS2 k2 nS eS
  (try clear F4); (try clear N4); (try clear F5); (try clear N5)
  iterate 69 walk1
  rename_i K _ _ lK loK _ Ds _ _ L0 _ lL0 _ oK hdK Sn _ lSn Gt _ lGt Due _ lDue Dt _ _ _ _ _ _ _ _ F7 N7
  refine Z3.growK F7 N7 (fun p hp => by repeat (first | exact hp | refine List.Mem.tail _ ?_)) fun v4  Z4  k4  k4h  kn4 => ?_
  have lt7 : ∀ a ∈ [W, d, C, Ln, G, P, R], @LT.lt Nat _ a K := fun a ha => let ⟨_, e⟩ := av a ha; lt_of_view Z3 (gno a ha) e lK
  have ltS : @LT.lt Nat _ S K := let ⟨_, e⟩ := DS3.alive; lt_of_view Z3 gS e lK
  have gK := (N7 (K, oK) (.tail _ (.tail _ (.tail _ (.tail _ (.tail _ (.tail _ (.head _)))))))).2.2
  have gL0 := (N7 (L0, _) (.tail _ (.tail _ (.tail _ (.tail _ (.head _)))))).2.2
  have gSn := (N7 (Sn, _) (.tail _ (.tail _ (.tail _ (.head _))))).2.2
  have gGt := (N7 (Gt, _) (.tail _ (.tail _ (.head _)))).2.2
  have gDue := (N7 (Due, _) (.tail _ (.head _))).2.2
  have W0 : Whole w s₁.heap v4 ⟨W, d, C, Ln, G, P, R, K, Sn, Gt, S⟩ (bsBegin L0) 0 0 Due [] := Whole.begin (A := ⟨W, d, C, Ln, G, P, R, K, Sn, Gt, S⟩) ndW lt7 ltS nS7 lL0.2.1 lSn.1 lGt.1 lDue.1 (fun a ha => by
      rcases List.mem_append (s := [W, d, C, Ln, G, P, R]) (t := [K, Sn, Gt, S, L0]) |>.mp ha with ha | ha
      · exact gno a ha
      · simp only [List.mem_cons, List.not_mem_nil, or_false] at ha
        rcases ha with q_ | q_ | q_ | q_ | q_
        · cases q_; exact gK
        · cases q_; exact gSn
        · cases q_; exact gGt
        · cases q_; exact gS
        · cases q_; exact gL0) gDue (k4 _ _ eW3) (k4 _ _ ed3) (fun a ha => ⟨by
      obtain ⟨o, ho, hO⟩ := Heap.dictOf_iff.mp (hD3 a ha).1
      exact Heap.dictOf_iff.mpr ⟨o, k4 _ _ ho, hO⟩, (hD3 a ha).2⟩) (k4 _ _ eR3)
    (Heap.dictOf_iff.mpr ⟨oK, kn4 (K, oK) (.tail _ (.tail _ (.tail _ (.tail _ (.tail _ (.tail _ (.head _))))))), hdK⟩) loK
    ⟨[_], 0, kn4 (L0, _) (.tail _ (.tail _ (.tail _ (.tail _ (.head _))))), DatsH.cons (DatH.tuple (n := 0) (vs := [_, _]) (kn4 (Ds, _) (.tail _ (.tail _ (.tail _ (.tail _ (.tail _ (.head _))))))) (DatsH.cons (DatH.int _ 0 _) (DatsH.cons (DatH.int _ 1 _) (DatsH.nil _)))) (DatsH.nil _)⟩
    (kn4 (Sn, _) (.tail _ (.tail _ (.tail _ (.head _))))) (kn4 (Gt, _) (.tail _ (.tail _ (.head _)))) (kn4 (Due, _) (.tail _ (.head _))) (DS3.up k4)
  clear T hL hlen
  (try clear hI)
  clear lt7 ltS gK gL0 gSn gGt gDue kn4 av eW3 ed3 eR3 hD3 DS3 ndW nS7 gno gS lK loK lL0 hdK lSn lGt lDue
  refine Mine.byv fun P_ kP_ => ?_
  obtain ⟨A, rfl, rfl, rfl, rfl, rfl, rfl, rfl, rfl, rfl, rfl, rfl⟩ : ∃ A : Ad, A.W = W ∧ A.d = d ∧ A.C = C ∧ A.Ln = Ln ∧ A.G = G ∧ A.P = P ∧ A.R = R ∧ A.K = K ∧ A.Sn = Sn ∧ A.Gt = Gt ∧ A.S = S := ⟨⟨W, d, C, Ln, G, P, R, K, Sn, Gt, S⟩, rfl, rfl, rfl, rfl, rfl, rfl, rfl, rfl, rfl, rfl, rfl⟩
  refine kP_ ?_
  clear kP_ P_
  replace W0 : Whole w s₁.heap v4 A (bsBegin L0) 0 0 Due [] := W0
  refine take_call KX TT Z4.H k4h (Mine.room0 hdp) (Mine.room0 hun) W0.S.F.DS (W0.S.G.off 10 _ (.head _)) (by (first | exact ar127 | omega)) (by (first | exact ar138 | omega)) fun kids tkd v5 h5 tk5 P5 DS5 d0 dl => ?_
  refine Z4.backK F7 N7 P5 (by first | exact Mine.nin1 (W0.S.G.off 10 _ (.head _)) | exact Mine.all1 (W0.S.G.off 10 _ (.head _)) | simpa using W0.S.G.off 10 _ (.head _)) (by first | exact Mine.nin1 (W0.S.F.DS.alive) | exact Mine.all1 (W0.S.F.DS.alive) | simpa using W0.S.F.DS.alive) ?_
  intro own5 mm_ Z5  F8  N8
  (try (refine Mine.wp_let ?_; intro sQ62_))
  have W5 := W0.take P5.keeps DS5
  (try clear F6); (try clear N6); (try clear F7); (try clear N7)
  iterate 3 walk1
  have hRg := ‹IsRange _ _ _ _ _ _ _ _›
  rename Fr s₁.heap _ _ _ => F9
  rename News s₁.heap _ _ own5 => N9
  refine .inr ⟨_, 1, 2 + kids, _, _, _, s₁.heap, _, _, fun i m own => LawJ1 w s₁.heap A Due _ i m own, rfl, hRg, ⟨by (first | exact ar20 | omega), by (first | exact ar152 d0 | omega), by omega⟩, F9, N9, ⟨v5, _, Z5, W5, Kids.start L0, Same.refl _ _⟩, ?turn, ?done⟩
  case turn =>
    clear hRg F9 N9 Z Z1 Z2 Z3 Z4 W0
    intro i v_ m own I oI h tk hi hp9_ hp10_ F N hIo hcl
    refine Mine.byv fun P_ kP_ => ?_
    obtain ⟨tv, rfl⟩ := hp9_
    obtain ⟨vi, B, Zi, Wi, Ki, hm⟩ := hp10_
    refine kP_ ?_
    clear kP_ P_
    refine Same.elimF hm F ?_
    intro u' mm_ F
    have nt := iter_noTup hcl
    have ncl : oI.cls ≠ .type "list" := by rcases hcl with h | h | h <;> rw [h] <;> decide
    have nct : oI.cls ≠ .type "tuple" := by rcases hcl with h | h | h <;> rw [h] <;> decide
    have hi2 : i ≤ 2 := by omega
    rw [show (1 : Int) + (i : Nat) = ((i + 1 : Nat) : Int) by push_cast; (first | exact ar192 | omega)]
    refine Mine.byv fun P_ kP_ => ?_
    obtain ⟨_, _, _, _, _, Ii⟩ := Wi.S.F.I
    refine kP_ ?_
    clear kP_ P_
    have hWC : A.W ≠ A.C := fun q => Wi.S.G.nd.2 0 2 (by decide) A.W (.head _) (by rw [q]; exact .head _)
    have hdC : A.d ≠ A.C := fun q => Wi.S.G.nd.2 1 2 (by decide) A.d (.head _) (by rw [q]; exact .head _)
    have hkl := Ki.kl
    have hkn : B.kn.length = i + 1 := Ki.inv.len
    have h0k : 0 < B.kl.length := by (first | exact ar13 hkl | omega)
    have h0n : 0 < B.kn.length := by (first | exact ar13 hkn | omega)
    obtain ⟨l0, hl0⟩ : ∃ l, B.kl[0]? = some l := ⟨_, List.getElem?_eq_getElem (by (first | exact ar13 hkl | omega))⟩
    obtain ⟨sp, hsp⟩ : ∃ sp, B.kn[0]? = some sp := ⟨_, List.getElem?_eq_getElem (by (first | exact ar13 hkn | omega))⟩
    have hspl : sp.length ≤ 4 * 4 := (Ki.inv.know 0 sp hsp).len (B := 4) (fun y => Int.le_trans (Ki.inv.cap 0 (by (first | exact ar57 | omega)) y) (by omega)) (fun y hy => by rw [Ki.inv.out 0 y (by (first | exact ar57 | omega)) (by push_cast; omega)]; exact Int.le_refl _)
    iterate 15 walk1
    rename Fr s₁.heap _ _ _ => F1
    rename News s₁.heap _ _ (_ :: own) => N1
    refine go_call KX TT Zi.H (Zi.sub F1 N1 fun _ h => .tail _ h) (Mine.room0 hdp) (Mine.room0 hun) Ii hWC hdC (Wi.S.G.off 2 _ (.head _)) Wi.S.F.DC (by omega) (fun z c e => by have := (Ki.ck z c e).short; (first | exact ar27 this | omega)) fun c1 c2 v3 h3 tk3 P3 DC3 hp1 hp2 => ?_
    refine Zi.backIK F1 N1 hIo nt P3 (fun a ha => by rw [List.mem_singleton.mp ha]; exact Wi.S.G.off 2 _ (.head _)) (by first | exact Mine.nin1 (Wi.S.F.DC.alive) | exact Mine.all1 (Wi.S.F.DC.alive) | simpa using Wi.S.F.DC.alive) ?_
    intro own3 mm_ Z3  F3  N3  hI3
    (try (refine Mine.wp_let ?_; intro sQ63_))
    have W3 := Wi.clocks P3.keeps DC3
    (try clear F1); (try clear N1); (try clear F); (try clear N)
    iterate 16 walk1
    rename_i Tq _ _ Dq _ _ _ lDq
    rename Fr s₁.heap _ _ _ => F4
    rename News s₁.heap _ _ (_ :: _ :: _ :: own3) => N4
    have nD := ne_iter N4 (.head _) (.tail _ (.tail _ (.head _))) (Ne.symm ncl)
    have nT := ne_iter N4 (.tail _ (.head _)) (.tail _ (.tail _ (.head _))) (Ne.symm nct)
    obtain ⟨v4, Z4, k4, k4h, kn4⟩ := Z3.grow (news := _ :: _ :: own3) F4 (News.pick N4 fun p hp => by
      rcases Mine.mem_sym hp with rfl | hp; exact .head _
      rcases Mine.mem_sym hp with rfl | hp; exact .tail _ (.head _)
      exact .tail _ (.tail _ (.tail _ hp))) (fun p hp => .tail _ (.tail _ hp))
    have W4 := W3.up k4
    have N4' := News.swap2 N4
    have gD := (N4 _ (.head _)).2.2
    have eD := kn4 _ (.head _)
    have LD : ListAt v4 Dq ([(((i + 1 : Nat) : Int), (1 : Int))].map spanD) := ⟨[_], 0, eD, DatsH.cons (DatH.tuple (n := 0) (vs := [_, _]) (kn4 _ (.tail _ (.head _))) (DatsH.cons (DatH.int _ _ _) (DatsH.cons (DatH.int _ 1 _) (DatsH.nil _)))) (DatsH.nil _)⟩
    have ltD : ∀ {a : Addr}, s₁.heap.get? a = none → (∃ o, v3.get? a = some o) → a ≠ Dq := fun h1 ⟨_, h2⟩ => Nat.ne_of_lt (lt_of_view Z3 h1 h2 (allLt_to lDq.2.2))
    refine known_put (kl := B.kl) (D := Dq) W4.S.F.DK k4h (W4.S.G.nd.2 7 13 (by decide) _ (.head _)) (by omega) LD (W4.S.F.DK.ne eD rfl) (by rw [hkl]) fun v5' h5' P5' DK5' => ?_
    refine Z4.backIK F4 N4' (hno_cons nD (hno_cons nT hI3)) nt P5' (fun a ha => by rw [List.mem_singleton.mp ha]; exact W4.S.G.off 7 _ (.head _)) (by first | exact Mine.nin1 (W4.S.F.DK.alive) | exact Mine.all1 (W4.S.F.DK.alive) | simpa using W4.S.F.DK.alive) ?_
    intro own5' mm_ Z5'  F6  N6  hI5
    (try (refine Mine.wp_let ?_; intro sQ64_))
    have W5' := W4.born P5'.keeps DK5' (fun j a ha => ltD (W3.S.G.off j a ha) (W3.S.F.alive j a ha)) gD (ltD W3.off W3.D.alive)
    (try clear F3); (try clear N3); (try clear F4); (try clear N4); (try clear N4')
    iterate 21 walk1
    rename Fr s₁.heap _ _ _ => F7
    rename News s₁.heap _ _ (_ :: own5') => N7
    have V5 := Z5'.sub F7 N7 fun _ h => .tail _ h
    refine law_told (i := 0) (l := l0) (sp := sp) KX TT Z5'.H V5 (Mine.room0 hdp) (Mine.room0 hun) W5'.S.F.DK (W5'.S.G.off 7 _ (.head _)) (W5'.S.G.nd.2 7 13 (by decide) _ (.head _)) (by show (B.kl ++ [Dq])[0]? = some l0; rw [List.getElem?_append_left h0k]; exact hl0) (by rw [List.getElem?_append_left h0n]; exact hsp) (by (first | exact ar72 hspl | omega)) (by simp; omega) fun r D1 v6 h6 tk6 P6 DK6 Lr hr hD1 => ?_
    refine Mine.byv fun P_ kP_ => ?_
    obtain ⟨own6, Z6, F8, N8, hI6⟩ := Z5'.backI F7 N7 hI5 nt P6 (fun a ha => by rw [List.mem_singleton.mp ha]; exact W5'.S.G.off 7 _ (.head _)) (by first | exact Mine.nin1 (W5'.S.F.DK.alive) | exact Mine.all1 (W5'.S.F.DK.alive) | simpa using W5'.S.F.DK.alive)
    refine kP_ ?_
    clear kP_ P_
    have W6 := W5'.know V5 (Z5'.H.trans V5) P6.keeps DK6 hD1
    (try clear F6); (try clear N6); (try clear F7); (try clear N7)
    iterate 2 walk1
    rename Fr s₁.heap _ _ _ => F9
    rename News s₁.heap _ _ (_ :: own6) => N9
    have V6 := Z6.sub F9 N9 fun _ h => .tail _ h
    refine law_learn (i := i + 1) (l := Dq) (sp := [(((i + 1 : Nat) : Int), (1 : Int))]) KX TT Z6.H V6 (Mine.room0 hdp) (Mine.room0 hun) W6.S.F.DK (W6.S.G.off 7 _ (.head _)) (W6.S.G.nd.2 7 13 (by decide) _ (.head _)) (by
        show ((B.kl ++ [Dq]).set 0 D1)[i + 1]? = some Dq
        rw [List.getElem?_set_ne (Nat.succ_ne_zero i).symm, List.getElem?_append_right (Nat.le_of_eq hkl), hkl]; simp) (by
        rw [List.getElem?_set_ne (Nat.succ_ne_zero i).symm, List.getElem?_append_right (Nat.le_of_eq hkn), hkn]; simp) (by first | exact nin_nil | exact all_nil | ((repeat (first | exact .head _ | refine .tail _ ?_)); done) | simp) Lr (by (first | exact ar72 hspl | omega)) (by show ((B.kl ++ [Dq]).set 0 D1).length ≤ 10; simp; omega) fun D2 v7 h7 tk7 P7 DK7 hD2 => ?_
    refine Z6.backIK F9 N9 hI6 nt P7 (fun a ha => by rw [List.mem_singleton.mp ha]; exact W6.S.G.off 7 _ (.head _)) (by first | exact Mine.nin1 (W6.S.F.DK.alive) | exact Mine.all1 (W6.S.F.DK.alive) | simpa using W6.S.F.DK.alive) ?_
    intro own7 mm_ Z7  F10  N10  hI7
    (try (refine Mine.wp_let ?_; intro sQ65_))
    have W7 := W6.know V6 (Z6.H.trans V6) P7.keeps DK7 hD2
    have e12 : cOf (upd B.cm 0 c1) ((i + 1 : Nat) : Int) = [(((i + 1 : Nat) : Int), 1)] := by
      unfold cOf
      rw [upd, if_neg (by (first | exact ar204 | omega)), Ki.hi _ (Int.le_refl _)]; rfl
    rw [e12] at hp2
    have k0 := Ki.cOk (g := 0) (by (first | exact ar128 | omega))
    have K7 := Ki.step (by (first | exact ar59 | omega)) (by omega) hsp (tick_spec k0 (by (first | exact ar8 | omega)) hp1) (joinL_spec (KOk.one (by omega) (by (first | exact ar6 | omega))) k0 hp2) (kl' := ((B.kl ++ [Dq]).set 0 D1).set (i + 1) D2) (by simp; (first | exact ar299 hkl | omega))
    (try clear F8); (try clear N8); (try clear F9); (try clear N9)
    iterate 2 walk1
    exact ⟨_, _, _, own7, rfl, ‹_›, ‹_›, hI7, v7, _, Z7, W7, K7, (Same.of.put _ _ rfl)⟩
  case done =>
    clear hRg F9 N9 Z Z1 Z2 Z3 Z4 W0
    (try clear F8); (try clear N8)
    intro m own h tk hp4_ F N
    refine Mine.byv fun P_ kP_ => ?_
    obtain ⟨vi, B, Zi, Wi, Ki, hm⟩ := hp4_
    refine kP_ ?_
    clear kP_ P_
    refine Same.elimF hm F ?_
    intro u' mm_ F
    have NB := Ki.num (by omega) (by omega)
    have Wi := Wi.mono (n' := 20) (m' := 0) (by omega) (by (first | exact ar19 | omega))
    replace F : Fr s₁.heap s₁.heap.objs.size h _ := F
    replace N : News s₁.heap s₁.heap.objs.size h own := N
    iterate 18 walk1
    rename Fr s₁.heap _ _ _ => F1
    rename News s₁.heap _ _ own => N1
    refine take_call KX TT Zi.H (Zi.sub F1 N1 fun _ h => h) (Mine.room0 hdp) (Mine.room0 hun) Wi.S.F.DS (Wi.S.G.off 10 _ (.head _)) (by (first | exact ar125 | omega)) (by (first | exact ar135 | omega)) fun turns tt v8 h8 tk8 P8 DS8 e0 el => ?_
    refine Zi.backK F1 N1 P8 (by first | exact Mine.nin1 (Wi.S.G.off 10 _ (.head _)) | exact Mine.all1 (Wi.S.G.off 10 _ (.head _)) | simpa using Wi.S.G.off 10 _ (.head _)) (by first | exact Mine.nin1 (Wi.S.F.DS.alive) | exact Mine.all1 (Wi.S.F.DS.alive) | simpa using Wi.S.F.DS.alive) ?_
    intro own8 mm_ Z8  F8  N8
    (try (refine Mine.wp_let ?_; intro sQ66_))
    have W8 := Wi.take P8.keeps DS8
    (try clear F); (try clear F1); (try clear N1); (try clear N)
    k_steps
    have hRg := ‹IsRange _ _ _ _ _ _ _ _›
    rename Fr s₁.heap _ _ _ => F9
    rename News s₁.heap _ _ own8 => N9
    refine .inr ⟨_, 0, 6 + turns, _, _, _, s₁.heap, _, _, fun i m own => LawJ2 w s₁.heap A Due _ i m own, rfl, hRg, ⟨by (first | exact ar19 | omega), by (first | exact ar151 e0 | omega), by omega⟩, F9, N9, ⟨v8, B, [], Z8, W8, NB, List.nodup_nil, fun d => by rw [Ki.rs], Same.refl _ _⟩, ?turn2, ?done2⟩
    case turn2 =>
      clear hRg F9 N9 Zi Wi W8 Z8 NB Ki
      (try clear F8); (try clear N8)
      intro i v_ m own I oI h tk hi hp9_ hp10_ F N hIo hcl
      refine Mine.byv fun P_ kP_ => ?_
      obtain ⟨tv, rfl⟩ := hp9_
      obtain ⟨vi, B, due, Zi, Wi, Ni, hdn, hdm, hm⟩ := hp10_
      refine kP_ ?_
      clear kP_ P_
      refine Same.elimF hm F ?_
      intro u' mm_ F
      have nt := iter_noTup hcl
      have hi17 : i ≤ 17 := by omega
      iterate 20 walk1
      rename Fr s₁.heap _ _ _ => F1
      rename News s₁.heap _ _ (_ :: own) => N1
      have V1 := Zi.sub F1 N1 fun _ h => .tail _ h
      refine deed_call (A := A) KX TT Zi.H V1 (Mine.room0 hdp) (Mine.room0 hun) Wi.S Ni hi17 fun r rows B' v1 h1 tk1 P1 S1 Nn Lr hmem hrl hlp hkl hr => ?_
      refine Zi.backIK F1 N1 hIo nt P1 (fun a ha => Wi.S.fpOff a ha) Wi.S.fpAlive ?_
      intro own1 mm_ Z1  F2  N2  hI1
      (try (refine Mine.wp_let ?_; intro sQ67_))
      have W1 := Wi.deed V1 P1.keeps S1 hlp hkl
      have hrD : r ≠ Due := fun q => by
        obtain ⟨o, e⟩ := Wi.D.alive
        rw [q, V1 _ _ e] at hr; cases hr
      have gr : s₁.heap.get? r = none := none_of (Fr.toSub F1) hr
      refine Mine.byv fun P_ kP_ => ?_
      obtain ⟨rvs, rn, er, hrd⟩ := Lr
      refine kP_ ?_
      clear kP_ P_
      have hrvl : rvs.length = rows.length := hrd.length
      have hrow : ∀ d ∈ rows, IsRow d := fun d hd => Nn.rw d ((hmem d).mpr (.inr hd))
      have hdue : ∀ d ∈ due, IsRow d := fun d hd => Nn.rw d ((hmem d).mpr (.inl ((hdm d).mp hd)))
      have hnrs := Nn.no
      have hrsl := Nn.rl
      clear Wi hlp hkl P1 V1 hr
      (try clear F); (try clear N); (try clear F1); (try clear N1)
      refine .inl ⟨r, rvs, _, rn, s₁.heap, _, _, fun j mm own_ => LawJ3 w s₁.heap A Due B' i I oI r rvs rn rows due _ j mm own_,
        rfl, Z1.sub F2 N2 (fun _ h => .tail _ h) _ _ er, .inr rfl, rfl, F2, N2, ⟨own1, v1, due, rfl, hI1, Z1, W1, er, hrd, hdn, fun d => by simp, Same.refl _ _⟩, .inr ?stays, ?turn3, ?done3⟩
      case stays =>
        intro j mm own_ hp3_
        refine Mine.byv fun P_ kP_ => ?_
        obtain ⟨own_i, v2, due2, rfl, hIi, Z2, W2, er2, _⟩ := hp3_
        refine kP_ ?_
        clear kP_ P_
        exact .tail _ ((Z2.look _ _ er2).2.resolve_left fun e => by rw [gr] at e; cases e)
      case turn3 =>
        clear F2 N2 Z1 W1 er hrd hI1
        intro j v_ mm own_ I2 oI2 h tk hv hp9_ F N hIo2 hcl2
        refine Mine.byv fun P_ kP_ => ?_
        obtain ⟨own_i, v2, due2, rfl, hIi, Z2, W2, er2, hrd2, hn2, hm2, hm⟩ := hp9_
        refine kP_ ?_
        clear kP_ P_
        refine Same.elimF hm F ?_
        intro u2 mm_ F
        have nt2 := iter_noTup hcl2
        have hII := hIo2 _ (.head _)
        have hI2i : ∀ q ∈ own_i, q.1 ≠ I2 := fun q hq => hIo2 q (.tail _ hq)
        have hjl : j < rows.length := by rw [← hrvl]; exact (List.getElem?_eq_some_iff.mp hv).1
        obtain ⟨d, hdj⟩ : ∃ d, rows[j]? = some d := ⟨_, List.getElem?_eq_getElem hjl⟩
        have hdr := List.mem_of_getElem? hdj
        have hdv : DatH v2 v_ d := by
          obtain ⟨v', e', d'⟩ := hrd2.get (k := j) hjl
          rw [hv] at e'; cases e'
          rwa [(List.getElem?_eq_some_iff.mp hdj).2] at d'
        have hm3 : ∀ x, x ∈ rows.take (j + 1) ↔ x ∈ rows.take j ∨ x = d := fun x => by
          rw [List.take_add_one, hdj]; simp
        refine Mine.byv fun P_ kP_ => ?_
        obtain ⟨dvs, dn, eDue, hDue⟩ := W2.D
        refine kP_ ?_
        clear kP_ P_
        have hdl : due2.length ≤ 800 * (i + 1) := Nat.le_trans (dat_len hn2 fun x hx => (hmem x).mpr (((hm2 x).mp hx).imp (hdm x).mp fun q => List.mem_of_mem_take q)) hrsl
        have dl : dvs.length = due2.length := hDue.length
        have okD : ∀ x ∈ due2, kqdOk 8 x = true := fun x hx => (((hm2 x).mp hx).elim (hdue x) fun q => hrow x (List.mem_of_mem_take q)).ok
        iterate 8 walk1
        rename Fr s₁.heap _ _ _ => F3
        rename News s₁.heap _ _ (_ :: (I, oI) :: own_i) => N3
        have V3 := Z2.sub F3 N3 fun _ h => .tail _ (.tail _ h)
        refine notIn_list (V3 _ _ eDue) (hDue.up V3) (hdv.up V3) okD (hrow d hdr).ok (show un + 64 < _ from Mine.room0 hun) fun b hb => ?_
        cases b with
        | true =>
          have hnd := hb.mp rfl
          iterate 6 (first | (k_unfold; (try dsimp only)) | (k_end; wrow_close) | walk1 | (dsimp only; walk1))
          rename Fr s₁.heap _ _ _ => F4
          rename News s₁.heap _ _ (_ :: (I, oI) :: own_i) => N4
          refine list_method eDue (Z2.sub F4 N4 fun _ h => .tail _ (.tail _ h)) ?_
          iterate 4 (first | (k_unfold; (try dsimp only)) | (k_end; wrow_close) | walk1 | (dsimp only; walk1))
          rename Fr s₁.heap _ _ _ => F5
          rename News s₁.heap _ _ (_ :: (I, oI) :: own_i) => N5
          refine list_append_post eDue (Z2.sub F5 N5 fun _ h => .tail _ (.tail _ h)) (by simp; omega) fun v' h10 k10 P10 eD10 => ?_
          refine Mine.byv fun P_ kP_ => ?_
          obtain ⟨own', Z', F10, N10, hI', hI2'⟩ := Z2.backI2 F5 N5 hIi hI2i nt nt2 P10 (by first | exact Mine.nin1 (W2.off) | exact Mine.all1 (W2.off) | simpa using W2.off) (by first | exact Mine.nin1 (⟨_, eDue⟩) | exact Mine.all1 (⟨_, eDue⟩) | simpa using ⟨_, eDue⟩)
          refine kP_ ?_
          clear kP_ P_
          have W' := W2.dueSet P10.keeps (due' := due2 ++ [d]) ⟨dvs ++ [v_], k10, by simpa using eD10, (hDue.append (DatsH.cons hdv (DatsH.nil _))).keeps P10.keeps (noTup_list eDue)⟩
          (try clear F3); (try clear N3); (try clear F4); (try clear N4); (try clear F5); (try clear N5)
          (try clear F); (try clear N)
          k_steps
          refine ⟨_, _, _, (I, oI) :: own', rfl, ‹_›, ‹_›, hno_cons hII hI2', own', v', due2 ++ [d], rfl, hI', Z', W', P10.keeps _ _ (by first | exact Mine.nin1 (hrD) | exact Mine.all1 (hrD) | simpa using hrD) er2, hrd2.keeps P10.keeps (noTup_list eDue), ?_, fun x => ?_, (Same.of.put _ _ rfl)⟩
          · rw [List.nodup_append]
            exact ⟨hn2, by simp, fun a ha b hb e => hnd (by rw [← List.mem_singleton.mp hb, ← e]; exact ha)⟩
          · rw [List.mem_append, hm2, hm3, List.mem_singleton, or_assoc]
        | false =>
          have hnd : d ∈ due2 := Classical.byContradiction fun q => by have := hb.mpr q; cases this
          k_steps
          refine ⟨_, _, _, (I, oI) :: own_i, rfl, ‹_›, ‹_›, hIo2, own_i, v2, due2, rfl, hIi, Z2, W2, er2, hrd2, hn2, fun x => ?_, (Same.of.put _ _ rfl)⟩
          rw [hm3, hm2]
          constructor
          · exact fun q => q.imp id .inl
          · rintro (q | q | rfl)
            · exact .inl q
            · exact .inr q
            · exact (hm2 _).mp hnd
      case done3 =>
        clear F2 N2 Z1 W1 er hrd hI1
        intro mm own_ h tk hp4_ F N
        refine Mine.byv fun P_ kP_ => ?_
        obtain ⟨own_i, v2, due2, rfl, hIi, Z2, W2, er2, hrd2, hn2, hm2, hm⟩ := hp4_
        refine kP_ ?_
        clear kP_ P_
        refine Same.elimF hm F ?_
        intro u2 mm_ F
        rw [hrvl, List.take_length] at hm2
        refine Mine.byv fun P_ kP_ => ?_
        obtain ⟨_, _, _, _, _, I2⟩ := W2.S.F.I
        refine kP_ ?_
        clear kP_ P_
        replace F : Fr s₁.heap s₁.heap.objs.size h _ := F
        replace N : News s₁.heap s₁.heap.objs.size h ((I, oI) :: own_i) := N
        have hdm' : ∀ d, d ∈ due2 ↔ d ∈ B'.rs := fun d => (hm2 d).trans ((or_congr (hdm d) Iff.rfl).trans (hmem d).symm)
        have hdr : ∀ d ∈ due2, IsRow d := fun d hd => Nn.rw d ((hdm' d).mp hd)
        have hdl : due2.length ≤ 800 * (i + 1) := Nat.le_trans (dat_len hn2 fun x hx => (hdm' x).mp hx) hrsl
        refine Mine.byv fun P_ kP_ => ?_
        obtain ⟨rsv, rsk, eR, hR⟩ := W2.S.F.DR
        obtain ⟨dvs, dn, eDue, hDue⟩ := W2.D
        refine kP_ ?_
        clear kP_ P_
        iterate 12 walk1
        rename Fr s₁.heap _ _ _ => F3
        rename News s₁.heap _ _ ((I, oI) :: own_i) => N3
        have V3 := Z2.sub F3 N3 fun _ h => .tail _ h
        refine sorted_rows (V3 _ _ eR) (hR.up V3) Nn.rw (by omega) (show un + 20 < _ from Mine.room0 hun) fun l1 out1 ds1 q1 h4 tk4 k4 hnw1 e1 hd1 hp1 hs1 => ?_
        refine Z2.backIK F3 N3 hIi nt (Post.same V3 k4) (by first | exact nin_nil | exact all_nil | ((repeat (first | exact .head _ | refine .tail _ ?_)); done) | simp) (by first | exact nin_nil | exact all_nil | ((repeat (first | exact .head _ | refine .tail _ ?_)); done) | simp) ?_
        intro own3 mm_ Z3  F4  N4  hI3
        (try (refine Mine.wp_let ?_; intro sQ68_))
        (try clear F); (try clear N); clear F3 N3
        iterate 6 walk1
        rename Fr s₁.heap _ _ _ => F5
        rename News s₁.heap _ _ ((I, oI) :: own3) => N5
        have V5 := Z3.sub F5 N5 fun _ h => .tail _ h
        refine sorted_rows (V5 _ _ eDue) (hDue.up V5) hdr (by omega) (show un + 20 < _ from Mine.room0 hun) fun l2 out2 ds2 q2 h6 tk6 k6 hnw2 e2 hd2 hp2 hs2 => ?_
        refine Z3.backIK F5 N5 hI3 nt (Post.same V5 k6) (by first | exact nin_nil | exact all_nil | ((repeat (first | exact .head _ | refine .tail _ ?_)); done) | simp) (by first | exact nin_nil | exact all_nil | ((repeat (first | exact .head _ | refine .tail _ ?_)); done) | simp) ?_
        intro own4 mm_ Z4  F6  N6  hI4
        (try (refine Mine.wp_let ?_; intro sQ69_))
        have eds : ds1 = ds2 := sorted_eq (fun d hd => Nn.rw d (hp1.mem_iff.mp hd)) (hp1.trans ((perm_mem hn2 hnrs hdm').symm.trans hp2.symm)) hs1 hs2
        (try clear F4); (try clear N4); (try clear F5); (try clear N5)
        refine ne_list (k6 _ _ e1) (hd1.up k6) e2 hd2 (fun d hd => (Nn.rw d (hp1.mem_iff.mp hd)).ok) (fun d hd => (hdr d (hp2.mem_iff.mp hd)).ok) (show un + 64 < _ from Mine.room0 hun) fun b hb => ?_
        obtain rfl : b = false := by
          cases b
          · rfl
          · exact absurd eds (hb.mp rfl)
        k_steps
        exact ⟨_, _, _, own4, rfl, ‹_›, ‹_›, hI4, v2, B', due2, Z4, W2, Nn, hn2, hdm', Same.widen (st := ["row"]) Same.of (Same.of.put _ _ rfl) fun z hz => by simp at hz ⊢; exact hz.2⟩
    case done2 =>
      clear hRg F9 N9 Zi Wi W8 Z8 NB Ki
      (try clear F8); (try clear N8)
      intro m own h tk hp4_ F N
      refine Mine.byv fun P_ kP_ => ?_
      obtain ⟨vi, B, due, Zi, Wi, Ni, hdn, hdm, hm⟩ := hp4_
      refine kP_ ?_
      clear kP_ P_
      refine Same.elimF hm F ?_
      intro u' mm_ F
      replace F : Fr s₁.heap s₁.heap.objs.size h _ := F
      replace N : News s₁.heap s₁.heap.objs.size h own := N
      iterate 10 walk1
      rename Fr s₁.heap _ _ _ => F1
      rename News s₁.heap _ _ own => N1
      refine right_call KX TT Zi.H (Zi.sub F1 N1 fun _ h => h) (Mine.room0 hdp) (Mine.room0 hun) Wi.S.F.DS (Wi.S.G.off 10 _ (.head _)) fun v2 h2 tk2 P2 => ?_
      refine Zi.backK F1 N1 P2 (by first | exact Mine.nin1 (Wi.S.G.off 10 _ (.head _)) | exact Mine.all1 (Wi.S.G.off 10 _ (.head _)) | simpa using Wi.S.G.off 10 _ (.head _)) (by first | exact Mine.nin1 (Wi.S.F.DS.alive) | exact Mine.all1 (Wi.S.F.DS.alive) | simpa using Wi.S.F.DS.alive) ?_
      intro own2 mm_ Z2  F2  N2
      (try (refine Mine.wp_let ?_; intro sQ70_))
      first
      | exact ⟨rfl, _, _, _, rfl, F2⟩
      | (refine kut_ret (by assumption) ?_; exact ⟨rfl, _, _, _, rfl, F2⟩)
      | (iterate 8 (first | (refine kut_ret (by assumption) ?_; exact ⟨rfl, _, _, _, rfl, F2⟩) | walk1)))
end
end Mine
theorem PySem.Challenge.cw_on0014_01_holds : PySem.Challenge.rw_on0014_01.Holds := by
  exact Mine.law_holds
