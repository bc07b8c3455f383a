import PyProof.Rows.All
import Wide.All
import OpenK.AllK
import Wide.FinOn
import Lean
import PySem.Challenge.RW_qd0103_01
set_option Elab.async false
set_option linter.all false
local macro_rules | `(tactic| walk_at $s:str) => `(tactic| k_extra $s)
local macro_rules | `(tactic| k_mem) => `(tactic| k_extra "k_mem")
local macro_rules | `(tactic| k_upd) => `(tactic| k_extra "k_upd")
noncomputable section
open PySem PySem.W PySem.W.X PyProof.Rows
set_option Elab.async false
set_option maxRecDepth 100000
set_option maxHeartbeats 0
namespace Mine
theorem lit_num {x : Str} {s : String} {cs : List Char} {l : List Nat} (hx : x = Str.ofString s) (h : s = String.ofList cs) (h2 : cs.map Char.toNat = l) : x = ⟨⟨l⟩⟩ := by rw [hx, h, ← h2]; exact Fast.ofString_ofList cs
/-- the long text that is written at the 44th statement -/
noncomputable def resOf : List Stmt → Str
  | [.Assign _ (.Constant (.str x) _ _) _] => x
  | _ => Str.empty
noncomputable def resL : {l : List Nat // resOf ((PySem.Challenge.pw_qd0103_01.main.body.drop 44).take 1) = ⟨⟨l⟩⟩} := by
  refine ⟨?l, ?h⟩
  case h =>
    refine lit_num rfl rfl ?_
    refine (?f : ?P → ?P) ?x
    case x =>
      simp only [List.map_cons, List.map_nil, Char.reduceToNat]
      exact rfl
    case f =>
      intro _
      kernel_rfl
noncomputable def resN : List Nat := by
  refine (?f : resL.1 = ?q → List Nat) ?h
  case h =>
    unfold resL
    dsimp only
    exact rfl
  case f =>
    intro _
    exact ?q
theorem resN_is : resOf ((PySem.Challenge.pw_qd0103_01.main.body.drop 44).take 1) = ⟨⟨resN⟩⟩ := resL.2.trans (by kernel_rfl)
/-- the program with its words as lists of code points -/
noncomputable def pwF : {p : Program // PySem.Challenge.pw_qd0103_01 = p} := by
  refine ⟨?p, ?h⟩
  case h =>
    refine (?f : PySem.Challenge.pw_qd0103_01 = ?p → PySem.Challenge.pw_qd0103_01 = ?p) ?x
    case x =>
      unfold PySem.Challenge.pw_qd0103_01
      have e0 : Str.ofString "_law_operands" = ⟨⟨[95, 108, 97, 119, 95, 111, 112, 101, 114, 97, 110, 100, 115]⟩⟩ := by kernel_rfl!
      have e1 : Str.ofString "five" = ⟨⟨[102, 105, 118, 101]⟩⟩ := by kernel_rfl!
      have e2 : Str.ofString "minus_five" = ⟨⟨[109, 105, 110, 117, 115, 95, 102, 105, 118, 101]⟩⟩ := by kernel_rfl!
      have e3 : Str.ofString "number" = ⟨⟨[110, 117, 109, 98, 101, 114]⟩⟩ := by kernel_rfl!
      have e4 : Str.ofString "bare" = ⟨⟨[98, 97, 114, 101]⟩⟩ := by kernel_rfl!
      have e5 : Str.ofString "ref" = ⟨⟨[114, 101, 102]⟩⟩ := by kernel_rfl!
      have e6 : Str.ofString "K" = ⟨⟨[75]⟩⟩ := by kernel_rfl!
      have e7 : Str.ofString "part" = ⟨⟨[112, 97, 114, 116]⟩⟩ := by kernel_rfl!
      have e8 : Str.ofString "sign" = ⟨⟨[115, 105, 103, 110]⟩⟩ := by kernel_rfl!
      have e9 : Str.ofString "(" = ⟨⟨[40]⟩⟩ := by kernel_rfl!
      have e10 : Str.ofString "5" = ⟨⟨[53]⟩⟩ := by kernel_rfl!
      have e11 : Str.ofString ":" = ⟨⟨[58]⟩⟩ := by kernel_rfl!
      have e12 : Str.ofString ")" = ⟨⟨[41]⟩⟩ := by kernel_rfl!
      have e13 : Str.ofString "_law_item" = ⟨⟨[95, 108, 97, 119, 95, 105, 116, 101, 109]⟩⟩ := by kernel_rfl!
      have e14 : Str.ofString "-" = ⟨⟨[45]⟩⟩ := by kernel_rfl!
      have e15 : Str.ofString "+" = ⟨⟨[43]⟩⟩ := by kernel_rfl!
      have e16 : Str.ofString "5.0" = ⟨⟨[53, 46, 48]⟩⟩ := by kernel_rfl!
      have e17 : Str.ofString "literal" = ⟨⟨[108, 105, 116, 101, 114, 97, 108]⟩⟩ := by kernel_rfl!
      have e18 : Str.ofString "text" = ⟨⟨[116, 101, 120, 116]⟩⟩ := by kernel_rfl!
      have e19 : Str.ofString "_law_words" = ⟨⟨[95, 108, 97, 119, 95, 119, 111, 114, 100, 115]⟩⟩ := by kernel_rfl!
      have e20 : Str.ofString "K OF R IN F" = ⟨⟨[75, 32, 79, 70, 32, 82, 32, 73, 78, 32, 70]⟩⟩ := by kernel_rfl!
      have e21 : Str.ofString "R" = ⟨⟨[82]⟩⟩ := by kernel_rfl!
      have e22 : Str.ofString "F" = ⟨⟨[70]⟩⟩ := by kernel_rfl!
      have e23 : Str.ofString "ALL" = ⟨⟨[65, 76, 76]⟩⟩ := by kernel_rfl!
      have e24 : Str.ofString "ab" = ⟨⟨[97, 98]⟩⟩ := by kernel_rfl!
      have e25 : Str.ofString "all" = ⟨⟨[97, 108, 108]⟩⟩ := by kernel_rfl!
      have e26 : Str.ofString "ALL ZEROS" = ⟨⟨[65, 76, 76, 32, 90, 69, 82, 79, 83]⟩⟩ := by kernel_rfl!
      have e27 : Str.ofString "figure" = ⟨⟨[102, 105, 103, 117, 114, 101]⟩⟩ := by kernel_rfl!
      have e28 : Str.ofString "ZERO" = ⟨⟨[90, 69, 82, 79]⟩⟩ := by kernel_rfl!
      have e29 : Str.ofString "QUOTES" = ⟨⟨[81, 85, 79, 84, 69, 83]⟩⟩ := by kernel_rfl!
      have e30 : Str.ofString "QUOTE" = ⟨⟨[81, 85, 79, 84, 69]⟩⟩ := by kernel_rfl!
      have e31 : Str.ofString "SPACE" = ⟨⟨[83, 80, 65, 67, 69]⟩⟩ := by kernel_rfl!
      have e32 : Str.ofString "HIGH-VALUE" = ⟨⟨[72, 73, 71, 72, 45, 86, 65, 76, 85, 69]⟩⟩ := by kernel_rfl!
      have e33 : Str.ofString "HIGH" = ⟨⟨[72, 73, 71, 72]⟩⟩ := by kernel_rfl!
      have e34 : Str.ofString "LOW-VALUES" = ⟨⟨[76, 79, 87, 45, 86, 65, 76, 85, 69, 83]⟩⟩ := by kernel_rfl!
      have e35 : Str.ofString "LOW" = ⟨⟨[76, 79, 87]⟩⟩ := by kernel_rfl!
      have e36 : Str.ofString "_law_right" = ⟨⟨[95, 108, 97, 119, 95, 114, 105, 103, 104, 116]⟩⟩ := by kernel_rfl!
      have e37 : Str.ofString "operands" = ⟨⟨[111, 112, 101, 114, 97, 110, 100, 115]⟩⟩ := by kernel_rfl!
      have e38 : Str.ofString "end" = ⟨⟨[101, 110, 100]⟩⟩ := by kernel_rfl!
      have e39 : Str.ofString "behind" = ⟨⟨[98, 101, 104, 105, 110, 100]⟩⟩ := by kernel_rfl!
      have e40 : Str.ofString "tokens" = ⟨⟨[116, 111, 107, 101, 110, 115]⟩⟩ := by kernel_rfl!
      have e41 : Str.ofString "trees" = ⟨⟨[116, 114, 101, 101, 115]⟩⟩ := by kernel_rfl!
      have e42 : Str.ofString "DISPLAY" = ⟨⟨[68, 73, 83, 80, 76, 65, 89]⟩⟩ := by kernel_rfl!
      have e43 : Str.ofString "more" = ⟨⟨[109, 111, 114, 101]⟩⟩ := by kernel_rfl!
      have e44 : Str.ofString "tree" = ⟨⟨[116, 114, 101, 101]⟩⟩ := by kernel_rfl!
      have e45 : Str.ofString "append" = ⟨⟨[97, 112, 112, 101, 110, 100]⟩⟩ := by kernel_rfl!
      have e46 : Str.ofString "reader" = ⟨⟨[114, 101, 97, 100, 101, 114]⟩⟩ := by kernel_rfl!
      have e47 : Str.ofString "_law_reader" = ⟨⟨[95, 108, 97, 119, 95, 114, 101, 97, 100, 101, 114]⟩⟩ := by kernel_rfl!
      have e48 : Str.ofString "told" = ⟨⟨[116, 111, 108, 100]⟩⟩ := by kernel_rfl!
      have e49 : Str.ofString "read_display" = ⟨⟨[114, 101, 97, 100, 95, 100, 105, 115, 112, 108, 97, 121]⟩⟩ := by kernel_rfl!
      have e50 : Str.ofString "inner" = ⟨⟨[105, 110, 110, 101, 114]⟩⟩ := by kernel_rfl!
      have e51 : Str.ofString "display" = ⟨⟨[100, 105, 115, 112, 108, 97, 121]⟩⟩ := by kernel_rfl!
      have e52 : Str.ofString "tuple" = ⟨⟨[116, 117, 112, 108, 101]⟩⟩ := by kernel_rfl!
      have e53 : Str.ofString "" = ⟨⟨[]⟩⟩ := by kernel_rfl!
      have e54 : Str.ofString "at" = ⟨⟨[97, 116]⟩⟩ := by kernel_rfl!
      have e55 : Str.ofString "len" = ⟨⟨[108, 101, 110]⟩⟩ := by kernel_rfl!
      have e56 : Str.ofString "_law_refused" = ⟨⟨[95, 108, 97, 119, 95, 114, 101, 102, 117, 115, 101, 100]⟩⟩ := by kernel_rfl!
      have e57 : Str.ofString "index" = ⟨⟨[105, 110, 100, 101, 120]⟩⟩ := by kernel_rfl!
      have e58 : Str.ofString "GrammarFault" = ⟨⟨[71, 114, 97, 109, 109, 97, 114, 70, 97, 117, 108, 116]⟩⟩ := by kernel_rfl!
      have e59 : Str.ofString "odd" = ⟨⟨[111, 100, 100]⟩⟩ := by kernel_rfl!
      have e60 : Str.ofString "law" = ⟨⟨[108, 97, 119]⟩⟩ := by kernel_rfl!
      have e61 : Str.ofString "script" = ⟨⟨[115, 99, 114, 105, 112, 116]⟩⟩ := by kernel_rfl!
      have e62 : Str.ofString "every" = ⟨⟨[101, 118, 101, 114, 121]⟩⟩ := by kernel_rfl!
      have e63 : Str.ofString "stop" = ⟨⟨[115, 116, 111, 112]⟩⟩ := by kernel_rfl!
      have e64 : Str.ofString "." = ⟨⟨[46]⟩⟩ := by kernel_rfl!
      have e65 : Str.ofString "behinds" = ⟨⟨[98, 101, 104, 105, 110, 100, 115]⟩⟩ := by kernel_rfl!
      have e66 : Str.ofString "ELSE" = ⟨⟨[69, 76, 83, 69]⟩⟩ := by kernel_rfl!
      have e67 : Str.ofString "DISPLAY K" = ⟨⟨[68, 73, 83, 80, 76, 65, 89, 32, 75]⟩⟩ := by kernel_rfl!
      have e68 : Str.ofString "END-IF" = ⟨⟨[69, 78, 68, 45, 73, 70]⟩⟩ := by kernel_rfl!
      have e69 : Str.ofString "WITH TEST" = ⟨⟨[87, 73, 84, 72, 32, 84, 69, 83, 84]⟩⟩ := by kernel_rfl!
      have e70 : Str.ofString "WITH" = ⟨⟨[87, 73, 84, 72]⟩⟩ := by kernel_rfl!
      have e71 : Str.ofString "word" = ⟨⟨[119, 111, 114, 100]⟩⟩ := by kernel_rfl!
      have e72 : Str.ofString "WITH NO ADVANCING" = ⟨⟨[87, 73, 84, 72, 32, 78, 79, 32, 65, 68, 86, 65, 78, 67, 73, 78, 71]⟩⟩ := by kernel_rfl!
      have e73 : Str.ofString "NO ADVANCING" = ⟨⟨[78, 79, 32, 65, 68, 86, 65, 78, 67, 73, 78, 71]⟩⟩ := by kernel_rfl!
      have e74 : Str.ofString "DISPLAY NO ADVANCING" = ⟨⟨[68, 73, 83, 80, 76, 65, 89, 32, 78, 79, 32, 65, 68, 86, 65, 78, 67, 73, 78, 71]⟩⟩ := by kernel_rfl!
      have e75 : Str.ofString "DISPLAY K NO" = ⟨⟨[68, 73, 83, 80, 76, 65, 89, 32, 75, 32, 78, 79]⟩⟩ := by kernel_rfl!
      have e76 : Str.ofString "DISPLAY K WITH NO ERROR" = ⟨⟨[68, 73, 83, 80, 76, 65, 89, 32, 75, 32, 87, 73, 84, 72, 32, 78, 79, 32, 69, 82, 82, 79, 82]⟩⟩ := by kernel_rfl!
      have e77 : Str.ofString "pen" = ⟨⟨[112, 101, 110]⟩⟩ := by kernel_rfl!
      have e78 : Str.ofString "_law_pen" = ⟨⟨[95, 108, 97, 119, 95, 112, 101, 110]⟩⟩ := by kernel_rfl!
      have e79 : Str.ofString "one" = ⟨⟨[111, 110, 101]⟩⟩ := by kernel_rfl!
      have e80 : Str.ofString "_law_pick" = ⟨⟨[95, 108, 97, 119, 95, 112, 105, 99, 107]⟩⟩ := by kernel_rfl!
      have e81 : Str.ofString "turn" = ⟨⟨[116, 117, 114, 110]⟩⟩ := by kernel_rfl!
      have e82 : Str.ofString "range" = ⟨⟨[114, 97, 110, 103, 101]⟩⟩ := by kernel_rfl!
      have e83 : Str.ofString "_law_draw" = ⟨⟨[95, 108, 97, 119, 95, 100, 114, 97, 119]⟩⟩ := by kernel_rfl!
      have e84 : Str.ofString ".0" = ⟨⟨[46, 48]⟩⟩ := by kernel_rfl!
      have e85 : Str.ofString "other" = ⟨⟨[111, 116, 104, 101, 114]⟩⟩ := by kernel_rfl!
      have e86 : Str.ofString "fast" = ⟨⟨[102, 97, 115, 116]⟩⟩ := by kernel_rfl!
      have e87 : Str.ofString "some" = ⟨⟨[115, 111, 109, 101]⟩⟩ := by kernel_rfl!
      have e88 : Str.ofString "split" = ⟨⟨[115, 112, 108, 105, 116]⟩⟩ := by kernel_rfl!
      have e89 : Str.ofString " " = ⟨⟨[32]⟩⟩ := by kernel_rfl!
      have e90 : Str.ofString "Reader" = ⟨⟨[82, 101, 97, 100, 101, 114]⟩⟩ := by kernel_rfl!
      have e91 : Str.ofString "Token" = ⟨⟨[84, 111, 107, 101, 110]⟩⟩ := by kernel_rfl!
      have e92 : Str.ofString "kind" = ⟨⟨[107, 105, 110, 100]⟩⟩ := by kernel_rfl!
      have e93 : Str.ofString "worth" = ⟨⟨[119, 111, 114, 116, 104]⟩⟩ := by kernel_rfl!
      have e94 : Str.ofString "enumerate" = ⟨⟨[101, 110, 117, 109, 101, 114, 97, 116, 101]⟩⟩ := by kernel_rfl!
      have e95 : Str.ofString "__init__" = ⟨⟨[95, 95, 105, 110, 105, 116, 95, 95]⟩⟩ := by kernel_rfl!
      have e96 : Str.ofString "self" = ⟨⟨[115, 101, 108, 102]⟩⟩ := by kernel_rfl!
      have e97 : Str.ofString "is_in_a" = ⟨⟨[105, 115, 95, 105, 110, 95, 97]⟩⟩ := by kernel_rfl!
      have e98 : Str.ofString "__name__" = ⟨⟨[95, 95, 110, 97, 109, 101, 95, 95]⟩⟩ := by kernel_rfl!
      have e99 : Str.ofString "law_qd0103_01" = ⟨⟨[108, 97, 119, 95, 113, 100, 48, 49, 48, 51, 95, 48, 49]⟩⟩ := by kernel_rfl!
      have e100 : Str.ofString "cells" = ⟨⟨[99, 101, 108, 108, 115]⟩⟩ := by kernel_rfl!
      have e101 : Str.ofString "abs" = ⟨⟨[97, 98, 115]⟩⟩ := by kernel_rfl!
      have e102 : Str.ofString "int" = ⟨⟨[105, 110, 116]⟩⟩ := by kernel_rfl!
      have e103 : Str.ofString "cell" = ⟨⟨[99, 101, 108, 108]⟩⟩ := by kernel_rfl!
      have e104 : Str.ofString "many" = ⟨⟨[109, 97, 110, 121]⟩⟩ := by kernel_rfl!
      have e105 : Str.ofString "fresh" = ⟨⟨[102, 114, 101, 115, 104]⟩⟩ := by kernel_rfl!
      have e106 : Str.ofString "sum" = ⟨⟨[115, 117, 109]⟩⟩ := by kernel_rfl!
      have e107 : Str.ofString "digit" = ⟨⟨[100, 105, 103, 105, 116]⟩⟩ := by kernel_rfl!
      have e108 : Str.ofString "is_reserved" = ⟨⟨[105, 115, 95, 114, 101, 115, 101, 114, 118, 101, 100]⟩⟩ := by kernel_rfl!
      have e109 : Str.ofString "RESERVED" = ⟨⟨[82, 69, 83, 69, 82, 86, 69, 68]⟩⟩ := by kernel_rfl!
      have e110 : Str.ofString "octets_of_text" = ⟨⟨[111, 99, 116, 101, 116, 115, 95, 111, 102, 95, 116, 101, 120, 116]⟩⟩ := by kernel_rfl!
      have e111 : Str.ofString "numbers" = ⟨⟨[110, 117, 109, 98, 101, 114, 115]⟩⟩ := by kernel_rfl!
      have e112 : Str.ofString "ord" = ⟨⟨[111, 114, 100]⟩⟩ := by kernel_rfl!
      have e113 : Str.ofString "MOST_OCTET" = ⟨⟨[77, 79, 83, 84, 95, 79, 67, 84, 69, 84]⟩⟩ := by kernel_rfl!
      have e114 : Str.ofString "bytes" = ⟨⟨[98, 121, 116, 101, 115]⟩⟩ := by kernel_rfl!
      have e115 : Str.ofString "named" = ⟨⟨[110, 97, 109, 101, 100]⟩⟩ := by kernel_rfl!
      have e116 : Str.ofString "shared" = ⟨⟨[115, 104, 97, 114, 101, 100]⟩⟩ := by kernel_rfl!
      have e117 : Str.ofString "peek" = ⟨⟨[112, 101, 101, 107]⟩⟩ := by kernel_rfl!
      have e118 : Str.ofString "ahead" = ⟨⟨[97, 104, 101, 97, 100]⟩⟩ := by kernel_rfl!
      have e119 : Str.ofString "is_done" = ⟨⟨[105, 115, 95, 100, 111, 110, 101]⟩⟩ := by kernel_rfl!
      have e120 : Str.ofString "_wall" = ⟨⟨[95, 119, 97, 108, 108]⟩⟩ := by kernel_rfl!
      have e121 : Str.ofString "fault" = ⟨⟨[102, 97, 117, 108, 116]⟩⟩ := by kernel_rfl!
      have e122 : Str.ofString "what" = ⟨⟨[119, 104, 97, 116]⟩⟩ := by kernel_rfl!
      have e123 : Str.ofString "min" = ⟨⟨[109, 105, 110]⟩⟩ := by kernel_rfl!
      have e124 : Str.ofString "take" = ⟨⟨[116, 97, 107, 101]⟩⟩ := by kernel_rfl!
      have e125 : Str.ofString "token" = ⟨⟨[116, 111, 107, 101, 110]⟩⟩ := by kernel_rfl!
      have e126 : Str.ofString "the text ends too early" = ⟨⟨[116, 104, 101, 32, 116, 101, 120, 116, 32, 101, 110, 100, 115, 32, 116, 111, 111, 32, 101, 97, 114, 108, 121]⟩⟩ := by kernel_rfl!
      have e127 : Str.ofString "is_kind" = ⟨⟨[105, 115, 95, 107, 105, 110, 100]⟩⟩ := by kernel_rfl!
      have e128 : Str.ofString "is_word" = ⟨⟨[105, 115, 95, 119, 111, 114, 100]⟩⟩ := by kernel_rfl!
      have e129 : Str.ofString "words" = ⟨⟨[119, 111, 114, 100, 115]⟩⟩ := by kernel_rfl!
      have e130 : Str.ofString "skip" = ⟨⟨[115, 107, 105, 112]⟩⟩ := by kernel_rfl!
      have e131 : Str.ofString "need" = ⟨⟨[110, 101, 101, 100]⟩⟩ := by kernel_rfl!
      have e132 : Str.ofString " is asked here" = ⟨⟨[32, 105, 115, 32, 97, 115, 107, 101, 100, 32, 104, 101, 114, 101]⟩⟩ := by kernel_rfl!
      have e133 : Str.ofString "one_of" = ⟨⟨[111, 110, 101, 95, 111, 102]⟩⟩ := by kernel_rfl!
      have e134 : Str.ofString "a word is asked here" = ⟨⟨[97, 32, 119, 111, 114, 100, 32, 105, 115, 32, 97, 115, 107, 101, 100, 32, 104, 101, 114, 101]⟩⟩ := by kernel_rfl!
      have e135 : Str.ofString "is_name" = ⟨⟨[105, 115, 95, 110, 97, 109, 101]⟩⟩ := by kernel_rfl!
      have e136 : Str.ofString "name" = ⟨⟨[110, 97, 109, 101]⟩⟩ := by kernel_rfl!
      have e137 : Str.ofString "a name is asked here" = ⟨⟨[97, 32, 110, 97, 109, 101, 32, 105, 115, 32, 97, 115, 107, 101, 100, 32, 104, 101, 114, 101]⟩⟩ := by kernel_rfl!
      have e138 : Str.ofString "names" = ⟨⟨[110, 97, 109, 101, 115]⟩⟩ := by kernel_rfl!
      have e139 : Str.ofString "is_sign" = ⟨⟨[105, 115, 95, 115, 105, 103, 110]⟩⟩ := by kernel_rfl!
      have e140 : Str.ofString "skip_sign" = ⟨⟨[115, 107, 105, 112, 95, 115, 105, 103, 110]⟩⟩ := by kernel_rfl!
      have e141 : Str.ofString "need_sign" = ⟨⟨[110, 101, 101, 100, 95, 115, 105, 103, 110]⟩⟩ := by kernel_rfl!
      have e142 : Str.ofString "is_number" = ⟨⟨[105, 115, 95, 110, 117, 109, 98, 101, 114]⟩⟩ := by kernel_rfl!
      have e143 : Str.ofString "signed" = ⟨⟨[115, 105, 103, 110, 101, 100]⟩⟩ := by kernel_rfl!
      have e144 : Str.ofString "a number is asked here" = ⟨⟨[97, 32, 110, 117, 109, 98, 101, 114, 32, 105, 115, 32, 97, 115, 107, 101, 100, 32, 104, 101, 114, 101]⟩⟩ := by kernel_rfl!
      have e145 : Str.ofString "is_below" = ⟨⟨[105, 115, 95, 98, 101, 108, 111, 119]⟩⟩ := by kernel_rfl!
      have e146 : Str.ofString "found" = ⟨⟨[102, 111, 117, 110, 100]⟩⟩ := by kernel_rfl!
      have e147 : Str.ofString "read_decimal" = ⟨⟨[114, 101, 97, 100, 95, 100, 101, 99, 105, 109, 97, 108]⟩⟩ := by kernel_rfl!
      have e148 : Str.ofString "negated" = ⟨⟨[110, 101, 103, 97, 116, 101, 100]⟩⟩ := by kernel_rfl!
      have e149 : Str.ofString "whole" = ⟨⟨[119, 104, 111, 108, 101]⟩⟩ := by kernel_rfl!
      have e150 : Str.ofString "a whole number is asked here" = ⟨⟨[97, 32, 119, 104, 111, 108, 101, 32, 110, 117, 109, 98, 101, 114, 32, 105, 115, 32, 97, 115, 107, 101, 100, 32, 104, 101, 114, 101]⟩⟩ := by kernel_rfl!
      have e151 : Str.ofString "is_whole" = ⟨⟨[105, 115, 95, 119, 104, 111, 108, 101]⟩⟩ := by kernel_rfl!
      have e152 : Str.ofString "whole_of" = ⟨⟨[119, 104, 111, 108, 101, 95, 111, 102]⟩⟩ := by kernel_rfl!
      have e153 : Str.ofString "a literal is asked here" = ⟨⟨[97, 32, 108, 105, 116, 101, 114, 97, 108, 32, 105, 115, 32, 97, 115, 107, 101, 100, 32, 104, 101, 114, 101]⟩⟩ := by kernel_rfl!
      have e154 : Str.ofString "octets" = ⟨⟨[111, 99, 116, 101, 116, 115]⟩⟩ := by kernel_rfl!
      have e155 : Str.ofString "a sign that is no octet" = ⟨⟨[97, 32, 115, 105, 103, 110, 32, 116, 104, 97, 116, 32, 105, 115, 32, 110, 111, 32, 111, 99, 116, 101, 116]⟩⟩ := by kernel_rfl!
      have e156 : Str.ofString "ledgerspeak.tokens" = ⟨⟨[108, 101, 100, 103, 101, 114, 115, 112, 101, 97, 107, 46, 116, 111, 107, 101, 110, 115]⟩⟩ := by kernel_rfl!
      have e157 : Str.ofString "read_body" = ⟨⟨[114, 101, 97, 100, 95, 98, 111, 100, 121]⟩⟩ := by kernel_rfl!
      have e158 : Str.ofString "operand_here" = ⟨⟨[111, 112, 101, 114, 97, 110, 100, 95, 104, 101, 114, 101]⟩⟩ := by kernel_rfl!
      have e159 : Str.ofString "begins_operand" = ⟨⟨[98, 101, 103, 105, 110, 115, 95, 111, 112, 101, 114, 97, 110, 100]⟩⟩ := by kernel_rfl!
      have e160 : Str.ofString "is_no_advance" = ⟨⟨[105, 115, 95, 110, 111, 95, 97, 100, 118, 97, 110, 99, 101]⟩⟩ := by kernel_rfl!
      have e161 : Str.ofString "word_ahead" = ⟨⟨[119, 111, 114, 100, 95, 97, 104, 101, 97, 100]⟩⟩ := by kernel_rfl!
      have e162 : Str.ofString "NO" = ⟨⟨[78, 79]⟩⟩ := by kernel_rfl!
      have e163 : Str.ofString "ADVANCING" = ⟨⟨[65, 68, 86, 65, 78, 67, 73, 78, 71]⟩⟩ := by kernel_rfl!
      have e164 : Str.ofString "ledgerspeak.reader" = ⟨⟨[108, 101, 100, 103, 101, 114, 115, 112, 101, 97, 107, 46, 114, 101, 97, 100, 101, 114]⟩⟩ := by kernel_rfl!
      have res_lit : Str.ofString _ = ⟨⟨resN⟩⟩ := resN_is
      have e166 : Str.ofString "FIGURE_WORDS" = ⟨⟨[70, 73, 71, 85, 82, 69, 95, 87, 79, 82, 68, 83]⟩⟩ := by kernel_rfl!
      have e167 : Str.ofString "ledgerspeak.readdata" = ⟨⟨[108, 101, 100, 103, 101, 114, 115, 112, 101, 97, 107, 46, 114, 101, 97, 100, 100, 97, 116, 97]⟩⟩ := by kernel_rfl!
      have e168 : Str.ofString "an item or a literal must stand here" = ⟨⟨[97, 110, 32, 105, 116, 101, 109, 32, 111, 114, 32, 97, 32, 108, 105, 116, 101, 114, 97, 108, 32, 109, 117, 115, 116, 32, 115, 116, 97, 110, 100, 32, 104, 101, 114, 101]⟩⟩ := by kernel_rfl!
      have e169 : Str.ofString "read_operand" = ⟨⟨[114, 101, 97, 100, 95, 111, 112, 101, 114, 97, 110, 100]⟩⟩ := by kernel_rfl!
      have e170 : Str.ofString "read_expression" = ⟨⟨[114, 101, 97, 100, 95, 101, 120, 112, 114, 101, 115, 115, 105, 111, 110]⟩⟩ := by kernel_rfl!
      have e171 : Str.ofString "read_product" = ⟨⟨[114, 101, 97, 100, 95, 112, 114, 111, 100, 117, 99, 116]⟩⟩ := by kernel_rfl!
      have e172 : Str.ofString "depth" = ⟨⟨[100, 101, 112, 116, 104]⟩⟩ := by kernel_rfl!
      have e173 : Str.ofString "read_factor" = ⟨⟨[114, 101, 97, 100, 95, 102, 97, 99, 116, 111, 114]⟩⟩ := by kernel_rfl!
      have e174 : Str.ofString "sign_among" = ⟨⟨[115, 105, 103, 110, 95, 97, 109, 111, 110, 103]⟩⟩ := by kernel_rfl!
      have e175 : Str.ofString "*" = ⟨⟨[42]⟩⟩ := by kernel_rfl!
      have e176 : Str.ofString "/" = ⟨⟨[47]⟩⟩ := by kernel_rfl!
      have e177 : Str.ofString "read_power" = ⟨⟨[114, 101, 97, 100, 95, 112, 111, 119, 101, 114]⟩⟩ := by kernel_rfl!
      have e178 : Str.ofString "is_own" = ⟨⟨[105, 115, 95, 111, 119, 110]⟩⟩ := by kernel_rfl!
      have e179 : Str.ofString "is_lone_number" = ⟨⟨[105, 115, 95, 108, 111, 110, 101, 95, 110, 117, 109, 98, 101, 114]⟩⟩ := by kernel_rfl!
      have e180 : Str.ofString "neg" = ⟨⟨[110, 101, 103]⟩⟩ := by kernel_rfl!
      have e181 : Str.ofString "**" = ⟨⟨[42, 42]⟩⟩ := by kernel_rfl!
      have e182 : Str.ofString "read_primary" = ⟨⟨[114, 101, 97, 100, 95, 112, 114, 105, 109, 97, 114, 121]⟩⟩ := by kernel_rfl!
      have e183 : Str.ofString "an operand is asked here" = ⟨⟨[97, 110, 32, 111, 112, 101, 114, 97, 110, 100, 32, 105, 115, 32, 97, 115, 107, 101, 100, 32, 104, 101, 114, 101]⟩⟩ := by kernel_rfl!
      have e184 : Str.ofString "read_sum" = ⟨⟨[114, 101, 97, 100, 95, 115, 117, 109]⟩⟩ := by kernel_rfl!
      have e185 : Str.ofString "ledgerspeak.readarith" = ⟨⟨[108, 101, 100, 103, 101, 114, 115, 112, 101, 97, 107, 46, 114, 101, 97, 100, 97, 114, 105, 116, 104]⟩⟩ := by kernel_rfl!
      have e186 : Str.ofString " ZERO ZEROS ZEROES SPACE SPACES HIGH-VALUE HIGH-VALUES LOW-VALUE LOW-VALUES QUOTE QUOTES ALL " = ⟨⟨[32, 90, 69, 82, 79, 32, 90, 69, 82, 79, 83, 32, 90, 69, 82, 79, 69, 83, 32, 83, 80, 65, 67, 69, 32, 83, 80, 65, 67, 69, 83, 32, 72, 73, 71, 72, 45, 86, 65, 76, 85, 69, 32, 72, 73, 71, 72, 45, 86, 65, 76, 85, 69, 83, 32, 76, 79, 87, 45, 86, 65, 76, 85, 69, 32, 76, 79, 87, 45, 86, 65, 76, 85, 69, 83, 32, 81, 85, 79, 84, 69, 32, 81, 85, 79, 84, 69, 83, 32, 65, 76, 76, 32]⟩⟩ := by kernel_rfl!
      have e187 : Str.ofString "MOST_DEEP" = ⟨⟨[77, 79, 83, 84, 95, 68, 69, 69, 80]⟩⟩ := by kernel_rfl!
      have e188 : Str.ofString "signs" = ⟨⟨[115, 105, 103, 110, 115]⟩⟩ := by kernel_rfl!
      have e189 : Str.ofString "brackets are nested too deep" = ⟨⟨[98, 114, 97, 99, 107, 101, 116, 115, 32, 97, 114, 101, 32, 110, 101, 115, 116, 101, 100, 32, 116, 111, 111, 32, 100, 101, 101, 112]⟩⟩ := by kernel_rfl!
      have e190 : Str.ofString "read_all" = ⟨⟨[114, 101, 97, 100, 95, 97, 108, 108]⟩⟩ := by kernel_rfl!
      have e191 : Str.ofString "read_figure" = ⟨⟨[114, 101, 97, 100, 95, 102, 105, 103, 117, 114, 101]⟩⟩ := by kernel_rfl!
      have e192 : Str.ofString "a literal is asked behind ALL" = ⟨⟨[97, 32, 108, 105, 116, 101, 114, 97, 108, 32, 105, 115, 32, 97, 115, 107, 101, 100, 32, 98, 101, 104, 105, 110, 100, 32, 65, 76, 76]⟩⟩ := by kernel_rfl!
      have e193 : Str.ofString "FIGURE_NAMES" = ⟨⟨[70, 73, 71, 85, 82, 69, 95, 78, 65, 77, 69, 83]⟩⟩ := by kernel_rfl!
      have e194 : Str.ofString "read_expr" = ⟨⟨[114, 101, 97, 100, 95, 101, 120, 112, 114]⟩⟩ := by kernel_rfl!
      have e195 : Str.ofString "read_ref" = ⟨⟨[114, 101, 97, 100, 95, 114, 101, 102]⟩⟩ := by kernel_rfl!
      have e196 : Str.ofString "ledgerspeak.expressions" = ⟨⟨[108, 101, 100, 103, 101, 114, 115, 112, 101, 97, 107, 46, 101, 120, 112, 114, 101, 115, 115, 105, 111, 110, 115]⟩⟩ := by kernel_rfl!
      have e197 : Str.ofString "ledgerspeak.references" = ⟨⟨[108, 101, 100, 103, 101, 114, 115, 112, 101, 97, 107, 46, 114, 101, 102, 101, 114, 101, 110, 99, 101, 115]⟩⟩ := by kernel_rfl!
      have e198 : Str.ofString "MOST_SUBSCRIPTS" = ⟨⟨[77, 79, 83, 84, 95, 83, 85, 66, 83, 67, 82, 73, 80, 84, 83]⟩⟩ := by kernel_rfl!
      have e199 : Str.ofString "ZEROS" = ⟨⟨[90, 69, 82, 79, 83]⟩⟩ := by kernel_rfl!
      have e200 : Str.ofString "ZEROES" = ⟨⟨[90, 69, 82, 79, 69, 83]⟩⟩ := by kernel_rfl!
      have e201 : Str.ofString "SPACES" = ⟨⟨[83, 80, 65, 67, 69, 83]⟩⟩ := by kernel_rfl!
      have e202 : Str.ofString "HIGH-VALUES" = ⟨⟨[72, 73, 71, 72, 45, 86, 65, 76, 85, 69, 83]⟩⟩ := by kernel_rfl!
      have e203 : Str.ofString "LOW-VALUE" = ⟨⟨[76, 79, 87, 45, 86, 65, 76, 85, 69]⟩⟩ := by kernel_rfl!
      have e204 : Str.ofString "is_part_next" = ⟨⟨[105, 115, 95, 112, 97, 114, 116, 95, 110, 101, 120, 116]⟩⟩ := by kernel_rfl!
      have e205 : Str.ofString "read_subscripts" = ⟨⟨[114, 101, 97, 100, 95, 115, 117, 98, 115, 99, 114, 105, 112, 116, 115]⟩⟩ := by kernel_rfl!
      have e206 : Str.ofString "more than 7 subscripts" = ⟨⟨[109, 111, 114, 101, 32, 116, 104, 97, 110, 32, 55, 32, 115, 117, 98, 115, 99, 114, 105, 112, 116, 115]⟩⟩ := by kernel_rfl!
      have e207 : Str.ofString "read_part" = ⟨⟨[114, 101, 97, 100, 95, 112, 97, 114, 116]⟩⟩ := by kernel_rfl!
      have e208 : Str.ofString "begin" = ⟨⟨[98, 101, 103, 105, 110]⟩⟩ := by kernel_rfl!
      have e209 : Str.ofString "length" = ⟨⟨[108, 101, 110, 103, 116, 104]⟩⟩ := by kernel_rfl!
      have e210 : Str.ofString "qualifiers" = ⟨⟨[113, 117, 97, 108, 105, 102, 105, 101, 114, 115]⟩⟩ := by kernel_rfl!
      have e211 : Str.ofString "OF IN" = ⟨⟨[79, 70, 32, 73, 78]⟩⟩ := by kernel_rfl!
      have e212 : Str.ofString "subscripts" = ⟨⟨[115, 117, 98, 115, 99, 114, 105, 112, 116, 115]⟩⟩ := by kernel_rfl!
      have e213 : Str.ofString "a" = ⟨⟨[97]⟩⟩ := by kernel_rfl!
      have e214 : Str.ofString "units_at" = ⟨⟨[117, 110, 105, 116, 115, 95, 97, 116]⟩⟩ := by kernel_rfl!
      have e215 : Str.ofString "worth_of" = ⟨⟨[119, 111, 114, 116, 104, 95, 111, 102]⟩⟩ := by kernel_rfl!
      have e216 : Str.ofString "figures" = ⟨⟨[102, 105, 103, 117, 114, 101, 115]⟩⟩ := by kernel_rfl!
      have e217 : Str.ofString "FIGURES" = ⟨⟨[70, 73, 71, 85, 82, 69, 83]⟩⟩ := by kernel_rfl!
      have e218 : Str.ofString "point" = ⟨⟨[112, 111, 105, 110, 116]⟩⟩ := by kernel_rfl!
      have e219 : Str.ofString "TokenFault" = ⟨⟨[84, 111, 107, 101, 110, 70, 97, 117, 108, 116]⟩⟩ := by kernel_rfl!
      have e220 : Str.ofString "no figure behind the point" = ⟨⟨[110, 111, 32, 102, 105, 103, 117, 114, 101, 32, 98, 101, 104, 105, 110, 100, 32, 116, 104, 101, 32, 112, 111, 105, 110, 116]⟩⟩ := by kernel_rfl!
      have e221 : Str.ofString "no figure" = ⟨⟨[110, 111, 32, 102, 105, 103, 117, 114, 101]⟩⟩ := by kernel_rfl!
      have e222 : Str.ofString "units" = ⟨⟨[117, 110, 105, 116, 115]⟩⟩ := by kernel_rfl!
      have e223 : Str.ofString "decimal" = ⟨⟨[100, 101, 99, 105, 109, 97, 108]⟩⟩ := by kernel_rfl!
      have e224 : Str.ofString "cut_quotient" = ⟨⟨[99, 117, 116, 95, 113, 117, 111, 116, 105, 101, 110, 116]⟩⟩ := by kernel_rfl!
      have e225 : Str.ofString "top" = ⟨⟨[116, 111, 112]⟩⟩ := by kernel_rfl!
      have e226 : Str.ofString "bottom" = ⟨⟨[98, 111, 116, 116, 111, 109]⟩⟩ := by kernel_rfl!
      have e227 : Str.ofString "scale" = ⟨⟨[115, 99, 97, 108, 101]⟩⟩ := by kernel_rfl!
      have e228 : Str.ofString "is_rounded" = ⟨⟨[105, 115, 95, 114, 111, 117, 110, 100, 101, 100]⟩⟩ := by kernel_rfl!
      have e229 : Str.ofString "size" = ⟨⟨[115, 105, 122, 101]⟩⟩ := by kernel_rfl!
      have e230 : Str.ofString "half" = ⟨⟨[104, 97, 108, 102]⟩⟩ := by kernel_rfl!
      have e231 : Str.ofString "k" = ⟨⟨[107]⟩⟩ := by kernel_rfl!
      have e232 : Str.ofString "ledgerspeak.errors" = ⟨⟨[108, 101, 100, 103, 101, 114, 115, 112, 101, 97, 107, 46, 101, 114, 114, 111, 114, 115]⟩⟩ := by kernel_rfl!
      have e233 : Str.ofString "LedgerError" = ⟨⟨[76, 101, 100, 103, 101, 114, 69, 114, 114, 111, 114]⟩⟩ := by kernel_rfl!
      have e234 : Str.ofString "Exception" = ⟨⟨[69, 120, 99, 101, 112, 116, 105, 111, 110]⟩⟩ := by kernel_rfl!
      have e235 : Str.ofString "ledgerspeak.decimals" = ⟨⟨[108, 101, 100, 103, 101, 114, 115, 112, 101, 97, 107, 46, 100, 101, 99, 105, 109, 97, 108, 115]⟩⟩ := by kernel_rfl!
      have e236 : Str.ofString "0123456789" = ⟨⟨[48, 49, 50, 51, 52, 53, 54, 55, 56, 57]⟩⟩ := by kernel_rfl!
      have e237 : Str.ofString "/claim/cut.py" = ⟨⟨[47, 99, 108, 97, 105, 109, 47, 99, 117, 116, 46, 112, 121]⟩⟩ := by kernel_rfl!
      simp only [e0, e1, e2, e3, e4, e5, e6, e7, e8, e9, e10, e11, e12, e13, e14, e15, e16, e17, e18, e19, e20, e21, e22, e23, e24, e25, e26, e27, e28, e29, e30, e31, e32, e33, e34, e35, e36, e37, e38, e39, e40, e41, e42, e43, e44, e45, e46, e47, e48, e49, e50, e51, e52, e53, e54, e55, e56, e57, e58, e59, e60, e61, e62, e63, e64, e65, e66, e67, e68, e69, e70, e71, e72, e73, e74, e75, e76, e77, e78, e79, e80, e81, e82, e83, e84, e85, e86, e87, e88, e89, e90, e91, e92, e93, e94, e95, e96, e97, e98, e99, e100, e101, e102, e103, e104, e105, e106, e107, e108, e109, e110, e111, e112, e113, e114, e115, e116, e117, e118, e119, e120, e121, e122, e123, e124, e125, e126, e127, e128, e129, e130, e131, e132, e133, e134, e135, e136, e137, e138, e139, e140, e141, e142, e143, e144, e145, e146, e147, e148, e149, e150, e151, e152, e153, e154, e155, e156, e157, e158, e159, e160, e161, e162, e163, e164, res_lit, e166, e167, e168, e169, e170, e171, e172, e173, e174, e175, e176, e177, e178, e179, e180, e181, e182, e183, e184, e185, e186, e187, e188, e189, e190, e191, e192, e193, e194, e195, e196, e197, e198, e199, e200, e201, e202, e203, e204, e205, e206, e207, e208, e209, e210, e211, e212, e213, e214, e215, e216, e217, e218, e219, e220, e221, e222, e223, e224, e225, e226, e227, e228, e229, e230, e231, e232, e233, e234, e235, e236, e237]
      exact rfl
    case f =>
      intro _
      have res_lit : Str.ofString _ = ⟨⟨resN⟩⟩ := resN_is
      rw [← res_lit]
      kernel_rfl
/-- the same, and nothing in it names the row -/
noncomputable def pF : Program := by
  refine (?f : pwF.1 = ?q → Program) ?h
  case h =>
    unfold pwF
    dsimp only
    exact rfl
  case f =>
    intro _
    exact ?q
theorem pF_is : PySem.Challenge.pw_qd0103_01 = pF := pwF.2.trans (by kernel_rfl)
end Mine
end
noncomputable section
open PySem PySem.W PySem.W.X PyProof.Rows PySem.Calls
set_option Elab.async false
set_option maxRecDepth 100000
set_option maxHeartbeats 0
set_option linter.unusedVariables false
namespace Mine
noncomputable def nthS : List Stmt → Nat → Option Stmt
  | [], _ => none
  | s :: _, 0 => some s
  | _ :: r, k + 1 => nthS r k
noncomputable def fnS : Option Stmt → Option (Arguments × List Stmt × Scope)
  | some (.FunctionDef _ a b _ _ _ s _ _ _) => some (a, b, s)
  | _ => none
noncomputable def clsS : Option Stmt → List Stmt
  | some (.ClassDef _ _ _ b _ _ _ _ _ _ _) => b
  | _ => []
noncomputable abbrev hB (k : Nat) := fnS (nthS pF.main.body k)
noncomputable abbrev hC (k j : Nat) := fnS (nthS (clsS (nthS pF.main.body k)) j)
noncomputable abbrev fO {o : Option (Arguments × List Stmt × Scope)} {a : Arguments} {b : List Stmt} {s : Scope} (_ : o = some (a, b, s)) (c : Value) (name qual : Str) (g : Addr) (cl : List (Str × Addr)) (d kd doc pm : Value) (an : Option Addr) (cd ct : Value) (bi : Addr) : Obj :=
  ⟨c, none, .func ⟨name, qual, a, .stmts b, s, g, cl, d, kd, doc, pm, an, cd, ct, bi⟩, #[]⟩
noncomputable abbrev ob (c : Value) (d : Data) : Obj := ⟨c, none, d, #[]⟩
noncomputable abbrev en (P : Params) (n : Str) (k : Nat) (v : Value) : DictEntry := ⟨PyData.keyHash P n, .str n k, v⟩
noncomputable abbrev n0 : Str := ⟨⟨[95, 108, 97, 119, 95, 111, 112, 101, 114, 97, 110, 100, 115]⟩⟩
noncomputable abbrev n1 : Str := ⟨⟨[102, 105, 118, 101]⟩⟩
noncomputable abbrev n2 : Str := ⟨⟨[109, 105, 110, 117, 115, 95, 102, 105, 118, 101]⟩⟩
noncomputable abbrev n3 : Str := ⟨⟨[110, 117, 109, 98, 101, 114]⟩⟩
noncomputable abbrev n4 : Str := ⟨⟨[98, 97, 114, 101]⟩⟩
noncomputable abbrev n7 : Str := ⟨⟨[112, 97, 114, 116]⟩⟩
noncomputable abbrev n8 : Str := ⟨⟨[115, 105, 103, 110]⟩⟩
noncomputable abbrev n13 : Str := ⟨⟨[95, 108, 97, 119, 95, 105, 116, 101, 109]⟩⟩
noncomputable abbrev n17 : Str := ⟨⟨[108, 105, 116, 101, 114, 97, 108]⟩⟩
noncomputable abbrev n18 : Str := ⟨⟨[116, 101, 120, 116]⟩⟩
noncomputable abbrev n19 : Str := ⟨⟨[95, 108, 97, 119, 95, 119, 111, 114, 100, 115]⟩⟩
noncomputable abbrev n27 : Str := ⟨⟨[102, 105, 103, 117, 114, 101]⟩⟩
noncomputable abbrev n28 : Str := ⟨⟨[90, 69, 82, 79]⟩⟩
noncomputable abbrev n29 : Str := ⟨⟨[81, 85, 79, 84, 69, 83]⟩⟩
noncomputable abbrev n30 : Str := ⟨⟨[81, 85, 79, 84, 69]⟩⟩
noncomputable abbrev n31 : Str := ⟨⟨[83, 80, 65, 67, 69]⟩⟩
noncomputable abbrev n32 : Str := ⟨⟨[72, 73, 71, 72, 45, 86, 65, 76, 85, 69]⟩⟩
noncomputable abbrev n33 : Str := ⟨⟨[72, 73, 71, 72]⟩⟩
noncomputable abbrev n34 : Str := ⟨⟨[76, 79, 87, 45, 86, 65, 76, 85, 69, 83]⟩⟩
noncomputable abbrev n35 : Str := ⟨⟨[76, 79, 87]⟩⟩
noncomputable abbrev n36 : Str := ⟨⟨[95, 108, 97, 119, 95, 114, 105, 103, 104, 116]⟩⟩
noncomputable abbrev n37 : Str := ⟨⟨[111, 112, 101, 114, 97, 110, 100, 115]⟩⟩
noncomputable abbrev n38 : Str := ⟨⟨[101, 110, 100]⟩⟩
noncomputable abbrev n39 : Str := ⟨⟨[98, 101, 104, 105, 110, 100]⟩⟩
noncomputable abbrev n40 : Str := ⟨⟨[116, 111, 107, 101, 110, 115]⟩⟩
noncomputable abbrev n41 : Str := ⟨⟨[116, 114, 101, 101, 115]⟩⟩
noncomputable abbrev n43 : Str := ⟨⟨[109, 111, 114, 101]⟩⟩
noncomputable abbrev n44 : Str := ⟨⟨[116, 114, 101, 101]⟩⟩
noncomputable abbrev n46 : Str := ⟨⟨[114, 101, 97, 100, 101, 114]⟩⟩
noncomputable abbrev n47 : Str := ⟨⟨[95, 108, 97, 119, 95, 114, 101, 97, 100, 101, 114]⟩⟩
noncomputable abbrev n48 : Str := ⟨⟨[116, 111, 108, 100]⟩⟩
noncomputable abbrev n49 : Str := ⟨⟨[114, 101, 97, 100, 95, 100, 105, 115, 112, 108, 97, 121]⟩⟩
noncomputable abbrev n54 : Str := ⟨⟨[97, 116]⟩⟩
noncomputable abbrev n56 : Str := ⟨⟨[95, 108, 97, 119, 95, 114, 101, 102, 117, 115, 101, 100]⟩⟩
noncomputable abbrev n57 : Str := ⟨⟨[105, 110, 100, 101, 120]⟩⟩
noncomputable abbrev n58 : Str := ⟨⟨[71, 114, 97, 109, 109, 97, 114, 70, 97, 117, 108, 116]⟩⟩
noncomputable abbrev n59 : Str := ⟨⟨[111, 100, 100]⟩⟩
noncomputable abbrev n60 : Str := ⟨⟨[108, 97, 119]⟩⟩
noncomputable abbrev n71 : Str := ⟨⟨[119, 111, 114, 100]⟩⟩
noncomputable abbrev n77 : Str := ⟨⟨[112, 101, 110]⟩⟩
noncomputable abbrev n78 : Str := ⟨⟨[95, 108, 97, 119, 95, 112, 101, 110]⟩⟩
noncomputable abbrev n80 : Str := ⟨⟨[95, 108, 97, 119, 95, 112, 105, 99, 107]⟩⟩
noncomputable abbrev n81 : Str := ⟨⟨[116, 117, 114, 110]⟩⟩
noncomputable abbrev n83 : Str := ⟨⟨[95, 108, 97, 119, 95, 100, 114, 97, 119]⟩⟩
noncomputable abbrev n87 : Str := ⟨⟨[115, 111, 109, 101]⟩⟩
noncomputable abbrev n90 : Str := ⟨⟨[82, 101, 97, 100, 101, 114]⟩⟩
noncomputable abbrev n91 : Str := ⟨⟨[84, 111, 107, 101, 110]⟩⟩
noncomputable abbrev n92 : Str := ⟨⟨[107, 105, 110, 100]⟩⟩
noncomputable abbrev n93 : Str := ⟨⟨[119, 111, 114, 116, 104]⟩⟩
noncomputable abbrev n95 : Str := ⟨⟨[95, 95, 105, 110, 105, 116, 95, 95]⟩⟩
noncomputable abbrev n96 : Str := ⟨⟨[115, 101, 108, 102]⟩⟩
noncomputable abbrev n97 : Str := ⟨⟨[105, 115, 95, 105, 110, 95, 97]⟩⟩
noncomputable abbrev n98 : Str := ⟨⟨[95, 95, 110, 97, 109, 101, 95, 95]⟩⟩
noncomputable abbrev n99 : Str := ⟨⟨[108, 97, 119, 95, 113, 100, 48, 49, 48, 51, 95, 48, 49]⟩⟩
noncomputable abbrev n104 : Str := ⟨⟨[109, 97, 110, 121]⟩⟩
noncomputable abbrev n105 : Str := ⟨⟨[102, 114, 101, 115, 104]⟩⟩
noncomputable abbrev n107 : Str := ⟨⟨[100, 105, 103, 105, 116]⟩⟩
noncomputable abbrev n108 : Str := ⟨⟨[105, 115, 95, 114, 101, 115, 101, 114, 118, 101, 100]⟩⟩
noncomputable abbrev n109 : Str := ⟨⟨[82, 69, 83, 69, 82, 86, 69, 68]⟩⟩
noncomputable abbrev n110 : Str := ⟨⟨[111, 99, 116, 101, 116, 115, 95, 111, 102, 95, 116, 101, 120, 116]⟩⟩
noncomputable abbrev n113 : Str := ⟨⟨[77, 79, 83, 84, 95, 79, 67, 84, 69, 84]⟩⟩
noncomputable abbrev n115 : Str := ⟨⟨[110, 97, 109, 101, 100]⟩⟩
noncomputable abbrev n116 : Str := ⟨⟨[115, 104, 97, 114, 101, 100]⟩⟩
noncomputable abbrev n117 : Str := ⟨⟨[112, 101, 101, 107]⟩⟩
noncomputable abbrev n118 : Str := ⟨⟨[97, 104, 101, 97, 100]⟩⟩
noncomputable abbrev n119 : Str := ⟨⟨[105, 115, 95, 100, 111, 110, 101]⟩⟩
noncomputable abbrev n120 : Str := ⟨⟨[95, 119, 97, 108, 108]⟩⟩
noncomputable abbrev n121 : Str := ⟨⟨[102, 97, 117, 108, 116]⟩⟩
noncomputable abbrev n122 : Str := ⟨⟨[119, 104, 97, 116]⟩⟩
noncomputable abbrev n124 : Str := ⟨⟨[116, 97, 107, 101]⟩⟩
noncomputable abbrev n125 : Str := ⟨⟨[116, 111, 107, 101, 110]⟩⟩
noncomputable abbrev n127 : Str := ⟨⟨[105, 115, 95, 107, 105, 110, 100]⟩⟩
noncomputable abbrev n128 : Str := ⟨⟨[105, 115, 95, 119, 111, 114, 100]⟩⟩
noncomputable abbrev n129 : Str := ⟨⟨[119, 111, 114, 100, 115]⟩⟩
noncomputable abbrev n130 : Str := ⟨⟨[115, 107, 105, 112]⟩⟩
noncomputable abbrev n131 : Str := ⟨⟨[110, 101, 101, 100]⟩⟩
noncomputable abbrev n133 : Str := ⟨⟨[111, 110, 101, 95, 111, 102]⟩⟩
noncomputable abbrev n135 : Str := ⟨⟨[105, 115, 95, 110, 97, 109, 101]⟩⟩
noncomputable abbrev n136 : Str := ⟨⟨[110, 97, 109, 101]⟩⟩
noncomputable abbrev n138 : Str := ⟨⟨[110, 97, 109, 101, 115]⟩⟩
noncomputable abbrev n139 : Str := ⟨⟨[105, 115, 95, 115, 105, 103, 110]⟩⟩
noncomputable abbrev n140 : Str := ⟨⟨[115, 107, 105, 112, 95, 115, 105, 103, 110]⟩⟩
noncomputable abbrev n141 : Str := ⟨⟨[110, 101, 101, 100, 95, 115, 105, 103, 110]⟩⟩
noncomputable abbrev n142 : Str := ⟨⟨[105, 115, 95, 110, 117, 109, 98, 101, 114]⟩⟩
noncomputable abbrev n143 : Str := ⟨⟨[115, 105, 103, 110, 101, 100]⟩⟩
noncomputable abbrev n145 : Str := ⟨⟨[105, 115, 95, 98, 101, 108, 111, 119]⟩⟩
noncomputable abbrev n146 : Str := ⟨⟨[102, 111, 117, 110, 100]⟩⟩
noncomputable abbrev n147 : Str := ⟨⟨[114, 101, 97, 100, 95, 100, 101, 99, 105, 109, 97, 108]⟩⟩
noncomputable abbrev n148 : Str := ⟨⟨[110, 101, 103, 97, 116, 101, 100]⟩⟩
noncomputable abbrev n149 : Str := ⟨⟨[119, 104, 111, 108, 101]⟩⟩
noncomputable abbrev n151 : Str := ⟨⟨[105, 115, 95, 119, 104, 111, 108, 101]⟩⟩
noncomputable abbrev n152 : Str := ⟨⟨[119, 104, 111, 108, 101, 95, 111, 102]⟩⟩
noncomputable abbrev n154 : Str := ⟨⟨[111, 99, 116, 101, 116, 115]⟩⟩
noncomputable abbrev n156 : Str := ⟨⟨[108, 101, 100, 103, 101, 114, 115, 112, 101, 97, 107, 46, 116, 111, 107, 101, 110, 115]⟩⟩
noncomputable abbrev n157 : Str := ⟨⟨[114, 101, 97, 100, 95, 98, 111, 100, 121]⟩⟩
noncomputable abbrev n158 : Str := ⟨⟨[111, 112, 101, 114, 97, 110, 100, 95, 104, 101, 114, 101]⟩⟩
noncomputable abbrev n159 : Str := ⟨⟨[98, 101, 103, 105, 110, 115, 95, 111, 112, 101, 114, 97, 110, 100]⟩⟩
noncomputable abbrev n160 : Str := ⟨⟨[105, 115, 95, 110, 111, 95, 97, 100, 118, 97, 110, 99, 101]⟩⟩
noncomputable abbrev n161 : Str := ⟨⟨[119, 111, 114, 100, 95, 97, 104, 101, 97, 100]⟩⟩
noncomputable abbrev n164 : Str := ⟨⟨[108, 101, 100, 103, 101, 114, 115, 112, 101, 97, 107, 46, 114, 101, 97, 100, 101, 114]⟩⟩
noncomputable abbrev n165 : Str := ⟨⟨resN⟩⟩
noncomputable abbrev n166 : Str := ⟨⟨[70, 73, 71, 85, 82, 69, 95, 87, 79, 82, 68, 83]⟩⟩
noncomputable abbrev n167 : Str := ⟨⟨[108, 101, 100, 103, 101, 114, 115, 112, 101, 97, 107, 46, 114, 101, 97, 100, 100, 97, 116, 97]⟩⟩
noncomputable abbrev n169 : Str := ⟨⟨[114, 101, 97, 100, 95, 111, 112, 101, 114, 97, 110, 100]⟩⟩
noncomputable abbrev n170 : Str := ⟨⟨[114, 101, 97, 100, 95, 101, 120, 112, 114, 101, 115, 115, 105, 111, 110]⟩⟩
noncomputable abbrev n171 : Str := ⟨⟨[114, 101, 97, 100, 95, 112, 114, 111, 100, 117, 99, 116]⟩⟩
noncomputable abbrev n172 : Str := ⟨⟨[100, 101, 112, 116, 104]⟩⟩
noncomputable abbrev n173 : Str := ⟨⟨[114, 101, 97, 100, 95, 102, 97, 99, 116, 111, 114]⟩⟩
noncomputable abbrev n174 : Str := ⟨⟨[115, 105, 103, 110, 95, 97, 109, 111, 110, 103]⟩⟩
noncomputable abbrev n177 : Str := ⟨⟨[114, 101, 97, 100, 95, 112, 111, 119, 101, 114]⟩⟩
noncomputable abbrev n178 : Str := ⟨⟨[105, 115, 95, 111, 119, 110]⟩⟩
noncomputable abbrev n179 : Str := ⟨⟨[105, 115, 95, 108, 111, 110, 101, 95, 110, 117, 109, 98, 101, 114]⟩⟩
noncomputable abbrev n182 : Str := ⟨⟨[114, 101, 97, 100, 95, 112, 114, 105, 109, 97, 114, 121]⟩⟩
noncomputable abbrev n184 : Str := ⟨⟨[114, 101, 97, 100, 95, 115, 117, 109]⟩⟩
noncomputable abbrev n185 : Str := ⟨⟨[108, 101, 100, 103, 101, 114, 115, 112, 101, 97, 107, 46, 114, 101, 97, 100, 97, 114, 105, 116, 104]⟩⟩
noncomputable abbrev n186 : Str := ⟨⟨[32, 90, 69, 82, 79, 32, 90, 69, 82, 79, 83, 32, 90, 69, 82, 79, 69, 83, 32, 83, 80, 65, 67, 69, 32, 83, 80, 65, 67, 69, 83, 32, 72, 73, 71, 72, 45, 86, 65, 76, 85, 69, 32, 72, 73, 71, 72, 45, 86, 65, 76, 85, 69, 83, 32, 76, 79, 87, 45, 86, 65, 76, 85, 69, 32, 76, 79, 87, 45, 86, 65, 76, 85, 69, 83, 32, 81, 85, 79, 84, 69, 32, 81, 85, 79, 84, 69, 83, 32, 65, 76, 76, 32]⟩⟩
noncomputable abbrev n187 : Str := ⟨⟨[77, 79, 83, 84, 95, 68, 69, 69, 80]⟩⟩
noncomputable abbrev n188 : Str := ⟨⟨[115, 105, 103, 110, 115]⟩⟩
noncomputable abbrev n190 : Str := ⟨⟨[114, 101, 97, 100, 95, 97, 108, 108]⟩⟩
noncomputable abbrev n191 : Str := ⟨⟨[114, 101, 97, 100, 95, 102, 105, 103, 117, 114, 101]⟩⟩
noncomputable abbrev n193 : Str := ⟨⟨[70, 73, 71, 85, 82, 69, 95, 78, 65, 77, 69, 83]⟩⟩
noncomputable abbrev n194 : Str := ⟨⟨[114, 101, 97, 100, 95, 101, 120, 112, 114]⟩⟩
noncomputable abbrev n195 : Str := ⟨⟨[114, 101, 97, 100, 95, 114, 101, 102]⟩⟩
noncomputable abbrev n196 : Str := ⟨⟨[108, 101, 100, 103, 101, 114, 115, 112, 101, 97, 107, 46, 101, 120, 112, 114, 101, 115, 115, 105, 111, 110, 115]⟩⟩
noncomputable abbrev n197 : Str := ⟨⟨[108, 101, 100, 103, 101, 114, 115, 112, 101, 97, 107, 46, 114, 101, 102, 101, 114, 101, 110, 99, 101, 115]⟩⟩
noncomputable abbrev n198 : Str := ⟨⟨[77, 79, 83, 84, 95, 83, 85, 66, 83, 67, 82, 73, 80, 84, 83]⟩⟩
noncomputable abbrev n199 : Str := ⟨⟨[90, 69, 82, 79, 83]⟩⟩
noncomputable abbrev n200 : Str := ⟨⟨[90, 69, 82, 79, 69, 83]⟩⟩
noncomputable abbrev n201 : Str := ⟨⟨[83, 80, 65, 67, 69, 83]⟩⟩
noncomputable abbrev n202 : Str := ⟨⟨[72, 73, 71, 72, 45, 86, 65, 76, 85, 69, 83]⟩⟩
noncomputable abbrev n203 : Str := ⟨⟨[76, 79, 87, 45, 86, 65, 76, 85, 69]⟩⟩
noncomputable abbrev n204 : Str := ⟨⟨[105, 115, 95, 112, 97, 114, 116, 95, 110, 101, 120, 116]⟩⟩
noncomputable abbrev n205 : Str := ⟨⟨[114, 101, 97, 100, 95, 115, 117, 98, 115, 99, 114, 105, 112, 116, 115]⟩⟩
noncomputable abbrev n207 : Str := ⟨⟨[114, 101, 97, 100, 95, 112, 97, 114, 116]⟩⟩
noncomputable abbrev n208 : Str := ⟨⟨[98, 101, 103, 105, 110]⟩⟩
noncomputable abbrev n209 : Str := ⟨⟨[108, 101, 110, 103, 116, 104]⟩⟩
noncomputable abbrev n210 : Str := ⟨⟨[113, 117, 97, 108, 105, 102, 105, 101, 114, 115]⟩⟩
noncomputable abbrev n212 : Str := ⟨⟨[115, 117, 98, 115, 99, 114, 105, 112, 116, 115]⟩⟩
noncomputable abbrev n213 : Str := ⟨⟨[97]⟩⟩
noncomputable abbrev n214 : Str := ⟨⟨[117, 110, 105, 116, 115, 95, 97, 116]⟩⟩
noncomputable abbrev n215 : Str := ⟨⟨[119, 111, 114, 116, 104, 95, 111, 102]⟩⟩
noncomputable abbrev n216 : Str := ⟨⟨[102, 105, 103, 117, 114, 101, 115]⟩⟩
noncomputable abbrev n217 : Str := ⟨⟨[70, 73, 71, 85, 82, 69, 83]⟩⟩
noncomputable abbrev n218 : Str := ⟨⟨[112, 111, 105, 110, 116]⟩⟩
noncomputable abbrev n219 : Str := ⟨⟨[84, 111, 107, 101, 110, 70, 97, 117, 108, 116]⟩⟩
noncomputable abbrev n222 : Str := ⟨⟨[117, 110, 105, 116, 115]⟩⟩
noncomputable abbrev n223 : Str := ⟨⟨[100, 101, 99, 105, 109, 97, 108]⟩⟩
noncomputable abbrev n224 : Str := ⟨⟨[99, 117, 116, 95, 113, 117, 111, 116, 105, 101, 110, 116]⟩⟩
noncomputable abbrev n225 : Str := ⟨⟨[116, 111, 112]⟩⟩
noncomputable abbrev n226 : Str := ⟨⟨[98, 111, 116, 116, 111, 109]⟩⟩
noncomputable abbrev n227 : Str := ⟨⟨[115, 99, 97, 108, 101]⟩⟩
noncomputable abbrev n228 : Str := ⟨⟨[105, 115, 95, 114, 111, 117, 110, 100, 101, 100]⟩⟩
noncomputable abbrev n229 : Str := ⟨⟨[115, 105, 122, 101]⟩⟩
noncomputable abbrev n230 : Str := ⟨⟨[104, 97, 108, 102]⟩⟩
noncomputable abbrev n231 : Str := ⟨⟨[107]⟩⟩
noncomputable abbrev n232 : Str := ⟨⟨[108, 101, 100, 103, 101, 114, 115, 112, 101, 97, 107, 46, 101, 114, 114, 111, 114, 115]⟩⟩
noncomputable abbrev n233 : Str := ⟨⟨[76, 101, 100, 103, 101, 114, 69, 114, 114, 111, 114]⟩⟩
noncomputable abbrev n235 : Str := ⟨⟨[108, 101, 100, 103, 101, 114, 115, 112, 101, 97, 107, 46, 100, 101, 99, 105, 109, 97, 108, 115]⟩⟩
noncomputable abbrev n236 : Str := ⟨⟨[48, 49, 50, 51, 52, 53, 54, 55, 56, 57]⟩⟩
noncomputable abbrev n237 : Str := ⟨⟨[47, 99, 108, 97, 105, 109, 47, 99, 117, 116, 46, 112, 121]⟩⟩
noncomputable abbrev n238 : Str := ⟨⟨[82, 101, 97, 100, 101, 114, 46, 108, 105, 116, 101, 114, 97, 108]⟩⟩
noncomputable abbrev n239 : Str := ⟨⟨[82, 101, 97, 100, 101, 114, 46, 111, 110, 101, 95, 111, 102]⟩⟩
noncomputable abbrev n240 : Str := ⟨⟨[95, 95, 100, 111, 99, 95, 95]⟩⟩
noncomputable abbrev n241 : Str := ⟨⟨[95, 95, 112, 97, 99, 107, 97, 103, 101, 95, 95]⟩⟩
noncomputable abbrev n242 : Str := ⟨⟨[95, 95, 108, 111, 97, 100, 101, 114, 95, 95]⟩⟩
noncomputable abbrev n243 : Str := ⟨⟨[95, 95, 115, 112, 101, 99, 95, 95]⟩⟩
noncomputable abbrev n244 : Str := ⟨⟨[95, 95, 97, 110, 110, 111, 116, 97, 116, 105, 111, 110, 115, 95, 95]⟩⟩
noncomputable abbrev n245 : Str := ⟨⟨[95, 95, 98, 117, 105, 108, 116, 105, 110, 115, 95, 95]⟩⟩
noncomputable abbrev n246 : Str := ⟨⟨[95, 95, 102, 105, 108, 101, 95, 95]⟩⟩
noncomputable abbrev n247 : Str := ⟨⟨[95, 95, 99, 97, 99, 104, 101, 100, 95, 95]⟩⟩
noncomputable abbrev n248 : Str := ⟨⟨[82, 101, 97, 100, 101, 114, 46, 110, 97, 109, 101, 115]⟩⟩
noncomputable abbrev n249 : Str := ⟨⟨[95, 95, 109, 111, 100, 117, 108, 101, 95, 95]⟩⟩
noncomputable abbrev n250 : Str := ⟨⟨[95, 95, 102, 105, 114, 115, 116, 108, 105, 110, 101, 110, 111, 95, 95]⟩⟩
noncomputable abbrev n251 : Str := ⟨⟨[95, 95, 115, 116, 97, 116, 105, 99, 95, 97, 116, 116, 114, 105, 98, 117, 116, 101, 115, 95, 95]⟩⟩
noncomputable abbrev n252 : Str := ⟨⟨[95, 95, 100, 105, 99, 116, 95, 95]⟩⟩
noncomputable abbrev n253 : Str := ⟨⟨[95, 95, 119, 101, 97, 107, 114, 101, 102, 95, 95]⟩⟩
noncomputable abbrev n254 : Str := ⟨⟨[82, 101, 97, 100, 101, 114, 46, 119, 104, 111, 108, 101]⟩⟩
noncomputable abbrev n255 : Str := ⟨⟨[82, 101, 97, 100, 101, 114, 46, 102, 97, 117, 108, 116]⟩⟩
noncomputable abbrev n256 : Str := ⟨⟨[84, 111, 107, 101, 110, 46, 116, 111, 108, 100]⟩⟩
noncomputable abbrev n257 : Str := ⟨⟨[82, 101, 97, 100, 101, 114, 46, 111, 99, 116, 101, 116, 115]⟩⟩
noncomputable abbrev n258 : Str := ⟨⟨[82, 101, 97, 100, 101, 114, 46, 105, 115, 95, 119, 111, 114, 100]⟩⟩
noncomputable abbrev n259 : Str := ⟨⟨[82, 101, 97, 100, 101, 114, 46, 119, 111, 114, 100]⟩⟩
noncomputable abbrev n260 : Str := ⟨⟨[82, 101, 97, 100, 101, 114, 46, 110, 97, 109, 101]⟩⟩
noncomputable abbrev n261 : Str := ⟨⟨[82, 101, 97, 100, 101, 114, 46, 115, 107, 105, 112]⟩⟩
noncomputable abbrev n262 : Str := ⟨⟨[95, 95, 113, 117, 97, 108, 110, 97, 109, 101, 95, 95]⟩⟩
noncomputable abbrev n263 : Str := ⟨⟨[95, 95, 109, 97, 105, 110, 95, 95]⟩⟩
noncomputable abbrev n264 : Str := ⟨⟨[82, 101, 97, 100, 101, 114, 46, 115, 105, 103, 110, 101, 100]⟩⟩
noncomputable abbrev n265 : Str := ⟨⟨[82, 101, 97, 100, 101, 114, 46, 95, 95, 105, 110, 105, 116, 95, 95]⟩⟩
noncomputable abbrev n266 : Str := ⟨⟨[82, 101, 97, 100, 101, 114, 46, 116, 97, 107, 101]⟩⟩
noncomputable abbrev n267 : Str := ⟨⟨[82, 101, 97, 100, 101, 114, 46, 112, 101, 101, 107]⟩⟩
noncomputable abbrev n268 : Str := ⟨⟨[82, 101, 97, 100, 101, 114, 46, 105, 115, 95, 110, 97, 109, 101]⟩⟩
noncomputable abbrev n269 : Str := ⟨⟨[82, 101, 97, 100, 101, 114, 46, 110, 101, 101, 100]⟩⟩
noncomputable abbrev n270 : Str := ⟨⟨[82, 101, 97, 100, 101, 114, 46, 105, 115, 95, 110, 117, 109, 98, 101, 114]⟩⟩
noncomputable abbrev n271 : Str := ⟨⟨[76, 101, 100, 103, 101, 114, 69, 114, 114, 111, 114, 46, 95, 95, 105, 110, 105, 116, 95, 95]⟩⟩
noncomputable abbrev n272 : Str := ⟨⟨[82, 101, 97, 100, 101, 114, 46, 105, 115, 95, 115, 105, 103, 110]⟩⟩
noncomputable abbrev n273 : Str := ⟨⟨[84, 111, 107, 101, 110, 46, 95, 95, 105, 110, 105, 116, 95, 95]⟩⟩
noncomputable abbrev n274 : Str := ⟨⟨[82, 101, 97, 100, 101, 114, 46, 105, 115, 95, 100, 111, 110, 101]⟩⟩
noncomputable abbrev n275 : Str := ⟨⟨[82, 101, 97, 100, 101, 114, 46, 105, 115, 95, 107, 105, 110, 100]⟩⟩
noncomputable abbrev n276 : Str := ⟨⟨[82, 101, 97, 100, 101, 114, 46, 115, 107, 105, 112, 95, 115, 105, 103, 110]⟩⟩
noncomputable abbrev n277 : Str := ⟨⟨[116, 121, 112, 101, 46, 95, 95, 115, 117, 98, 99, 108, 97, 115, 115, 101, 115, 95, 95, 46, 69, 120, 99, 101, 112, 116, 105, 111, 110, 46, 48]⟩⟩
noncomputable abbrev n278 : Str := ⟨⟨[116, 121, 112, 101, 46, 95, 95, 115, 117, 98, 99, 108, 97, 115, 115, 101, 115, 95, 95, 46, 69, 120, 99, 101, 112, 116, 105, 111, 110, 46, 110]⟩⟩
noncomputable abbrev n279 : Str := ⟨⟨[82, 101, 97, 100, 101, 114, 46, 110, 101, 101, 100, 95, 115, 105, 103, 110]⟩⟩
noncomputable abbrev n280 : Str := ⟨⟨[60, 109, 111, 100, 117, 108, 101, 62]⟩⟩
noncomputable abbrev n281 : Str := ⟨⟨[76, 101, 100, 103, 101, 114, 69, 114, 114, 111, 114, 46, 116, 111, 108, 100]⟩⟩
noncomputable def o1483 (P : Params) : Obj := fO (o := hC 47 20) rfl (.type "function") n17 n238 3 [] .none .none .none (.str n164 564) none (.ref 435) .none 0
noncomputable def o1209 (P : Params) : Obj := (ob (.type "code") (.fields #[(.str n190 421), (.str n190 422), (.str n237 423), (.int 106 0), (.int 1 0), (.int 0 0), (.int 0 0), (.int 3 0), (.ref 161), (.bool true), (.int 181 0), (.ref 162), .none, (.ref 163), (.ref 164), (.ref 165), (.int 426 0), (.int 106 0), (.str n237 427)]))
noncomputable def o1202 (P : Params) : Obj := (ob (.type "code") (.fields #[(.str n195 409), (.str n195 410), (.str n237 411), (.int 96 0), (.int 2 0), (.int 0 0), (.int 0 0), (.int 3 0), (.ref 154), (.bool true), (.int 181 0), (.ref 155), .none, (.ref 156), (.ref 157), (.ref 158), (.int 418 0), (.int 96 0), (.str n237 419)]))
noncomputable def o1046 (P : Params) : Obj := (ob (.type "tuple") (.seq #[] 0))
noncomputable def o1288 (P : Params) : Obj := (ob (.type "code") (.fields #[(.str n161 528), (.str n161 529), (.str n237 530), (.int 180 0), (.int 3 0), (.int 0 0), (.int 0 0), (.int 3 0), (.ref 238), (.bool true), (.int 181 0), (.ref 239), .none, (.ref 240), (.ref 241), (.ref 242), (.int 535 0), (.int 180 0), (.str n237 536)]))
noncomputable def o1173 (P : Params) : Obj := (ob .none (.fields #[]))
noncomputable def o1661 (P : Params) : Obj := (ob (.type "tuple") (.seq #[] 0))
noncomputable def o1633 (P : Params) : Obj := (ob .none (.fields #[]))
noncomputable def o1444 (P : Params) : Obj := (ob (.type "tuple") (.seq #[(.str n96 726), (.str n8 727)] 0))
noncomputable def o1507 (P : Params) : Obj := (ob (.type "tuple") (.seq #[] 0))
noncomputable def o1252 (P : Params) : Obj := fO (o := hB 30) rfl (.type "function") n171 n171 3 [] .none .none .none (.str n196 445) none (.ref 208) .none 0
noncomputable def o1149 (P : Params) : Obj := (ob .none (.fields #[(.int 1 0), (.int 0 0), (.ref 20), (.int 5 0), (.int 0 0), (.ref 27), (.int 14 0), (.int 0 0), (.ref 56), (.int 16 0), (.int 0 0), (.ref 68), (.int 20 0), (.int 0 0), (.ref 80), (.int 24 0), (.int 0 0), (.ref 88), (.int 31 0), (.int 0 0), (.ref 95), (.int 33 0), (.int 0 0), (.ref 102), (.int 41 0), (.int 0 0), (.ref 109), (.int 43 0), (.int 0 0), (.ref 116), (.int 45 0), (.int 0 0), (.ref 123), (.int 50 0), (.int 0 0), (.ref 130), (.int 68 0), (.int 0 0), (.ref 138), (.int 81 0), (.int 0 0), (.ref 145), (.int 89 0), (.int 0 0), (.ref 152)]))
noncomputable def o1576 (P : Params) : Obj := fO (o := hC 47 9) rfl .none n133 n239 0 [] .none .none .none .none none .none .none 0
noncomputable def o1148 (P : Params) : Obj := (ob (.type "dict") (.dict #[(en P n98 165 (.str n197 343)), (en P n240 166 .none), (en P n241 167 .none), (en P n242 168 (.builtin "__main__.__loader__#opaque")), (en P n243 169 .none), (en P n244 170 (.ref 6)), (en P n245 171 (.ref 4)), (en P n246 173 (.str n237 172)), (en P n247 174 .none), (en P n120 193 (.ref 21)), (en P n233 235 (.ref 47)), (en P n219 251 (.ref 60)), (en P n58 267 (.ref 72)), (en P n217 271 (.str n236 270)), (en P n224 279 (.ref 81)), (en P n223 288 (.ref 89)), (en P n148 295 (.ref 96)), (en P n214 306 (.ref 103)), (en P n151 313 (.ref 110)), (en P n152 320 (.ref 117)), (en P n215 329 (.ref 124)), (en P n147 342 (.ref 131)), (en P n198 346 (.int 7 345)), (en P n193 380 (.ref 132)), (en P n204 389 (.ref 139)), (en P n205 398 (.ref 146)), (en P n207 408 (.ref 153))] 27))
noncomputable def o1278 (P : Params) : Obj := fO (o := hB 34) rfl .none n182 n182 0 [] .none .none .none .none none .none .none 0
noncomputable def o1580 (P : Params) : Obj := (ob .none (.fields #[]))
noncomputable def o1431 (P : Params) : Obj := fO (o := hC 47 13) rfl .none n138 n248 0 [] .none .none .none .none none .none .none 0
noncomputable def o1393 (P : Params) : Obj := (ob (.type "tuple") (.seq #[(.str n96 669), (.str n129 670)] 0))
noncomputable def o1166 (P : Params) : Obj := (ob (.type "tuple") (.seq #[(.str n18 333), (.str n208 334), (.str n118 335), (.str n39 336), (.str n218 337), (.str n54 338), (.str n222 339)] 0))
noncomputable def o1442 (P : Params) : Obj := (ob (.type "tuple") (.seq #[] 0))
noncomputable def o1492 (P : Params) : Obj := (ob (.type "dict") (.dict #[(en P n249 590 (.str n164 564)), (en P n250 594 (.int 214 593)), (en P n95 604 (.ref 292)), (en P n117 613 (.ref 300)), (en P n119 620 (.ref 307)), (en P n121 628 (.ref 314)), (en P n124 636 (.ref 321)), (en P n127 647 (.ref 329)), (en P n128 657 (.ref 336)), (en P n130 665 (.ref 343)), (en P n131 673 (.ref 350)), (en P n133 682 (.ref 357)), (en P n71 689 (.ref 364)), (en P n135 698 (.ref 372)), (en P n136 705 (.ref 379)), (en P n138 712 (.ref 386)), (en P n139 722 (.ref 394)), (en P n140 730 (.ref 401)), (en P n141 738 (.ref 408)), (en P n142 745 (.ref 415)), (en P n143 754 (.ref 422)), (en P n149 762 (.ref 429)), (en P n17 769 (.ref 436)), (en P n154 777 (.ref 443)), (en P n251 782 (.ref 444)), (en P n252 784 (.ref 447)), (en P n253 786 (.ref 448)), (en P n240 787 .none)] 4))
noncomputable def o1298 (P : Params) : Obj := (ob .none (.fields #[]))
noncomputable def o1171 (P : Params) : Obj := (ob (.type "dict") (.dict #[(en P n28 347 (.str n28 348)), (en P n199 349 (.str n28 350)), (en P n200 351 (.str n28 352)), (en P n31 353 (.str n31 354)), (en P n201 355 (.str n31 356)), (en P n32 357 (.str n33 358)), (en P n202 359 (.str n33 360)), (en P n203 361 (.str n35 362)), (en P n34 363 (.str n35 364)), (en P n30 365 (.str n30 366)), (en P n29 367 (.str n30 368))] 11))
noncomputable def o1158 (P : Params) : Obj := (ob .none (.fields #[]))
noncomputable def o1130 (P : Params) : Obj := (ob (.type "tuple") (.seq #[] 0))
noncomputable def o1155 (P : Params) : Obj := (ob (.type "code") (.fields #[(.str n152 314), (.str n152 315), (.str n237 316), (.int 43 0), (.int 1 0), (.int 0 0), (.int 0 0), (.int 3 0), (.ref 111), (.bool true), (.int 181 0), (.ref 112), .none, (.ref 113), (.ref 114), (.ref 115), (.int 318 0), (.int 43 0), (.str n237 319)]))
noncomputable def o1476 (P : Params) : Obj := fO (o := hC 47 19) rfl (.type "function") n149 n254 3 [] .none .none .none (.str n164 564) none (.ref 428) .none 0
noncomputable def o1128 (P : Params) : Obj := (ob .none (.fields #[]))
noncomputable def o1215 (P : Params) : Obj := fO (o := hB 23) rfl .none n191 n191 0 [] .none .none .none .none none .none .none 0
noncomputable def o1433 (P : Params) : Obj := fO (o := hC 47 13) rfl (.type "function") n138 n248 3 [] .none .none .none (.str n164 564) none (.ref 385) .none 0
noncomputable def o1644 (P : Params) : Obj := (ob (.type "dict") (.dict #[(en P n98 165 (.str n99 836)), (en P n240 166 .none), (en P n241 167 .none), (en P n242 168 (.builtin "__main__.__loader__#opaque")), (en P n243 169 .none), (en P n244 170 (.ref 6)), (en P n245 171 (.ref 4)), (en P n246 173 (.str n237 172)), (en P n247 174 .none), (en P n120 193 (.ref 21)), (en P n233 235 (.ref 47)), (en P n219 251 (.ref 60)), (en P n58 267 (.ref 72)), (en P n217 271 (.str n236 270)), (en P n224 279 (.ref 81)), (en P n223 288 (.ref 89)), (en P n148 295 (.ref 96)), (en P n214 306 (.ref 103)), (en P n151 313 (.ref 110)), (en P n152 320 (.ref 117)), (en P n215 329 (.ref 124)), (en P n147 342 (.ref 131)), (en P n198 346 (.int 7 345)), (en P n193 380 (.ref 132)), (en P n204 389 (.ref 139)), (en P n205 398 (.ref 146)), (en P n207 408 (.ref 153)), (en P n195 420 (.ref 160)), (en P n190 428 (.ref 167)), (en P n191 435 (.ref 174)), (en P n169 444 (.ref 181)), (en P n187 448 (.int 20 447)), (en P n170 455 (.ref 188)), (en P n174 464 (.ref 195)), (en P n184 474 (.ref 202)), (en P n171 484 (.ref 209)), (en P n173 495 (.ref 216)), (en P n179 504 (.ref 223)), (en P n177 513 (.ref 230)), (en P n182 523 (.ref 237)), (en P n166 527 (.str n186 526)), (en P n161 537 (.ref 244)), (en P n159 544 (.ref 251)), (en P n158 553 (.ref 258)), (en P n49 563 (.ref 265)), (en P n113 567 (.int 255 566)), (en P n109 569 (.str n165 568)), (en P n108 576 (.ref 272)), (en P n110 582 (.ref 277)), (en P n90 789 (.ref 446)), (en P n91 835 (.ref 476)), (en P n78 843 (.ref 485)), (en P n83 854 (.ref 492)), (en P n80 862 (.ref 499)), (en P n19 868 (.ref 504)), (en P n47 874 (.ref 509)), (en P n13 882 (.ref 516)), (en P n0 892 (.ref 523)), (en P n36 907 (.ref 530)), (en P n56 916 (.ref 537)), (en P n60 922 (.ref 542))] 61))
noncomputable def o1257 (P : Params) : Obj := fO (o := hB 31) rfl .none n173 n173 0 [] .none .none .none .none none .none .none 0
noncomputable def o1313 (P : Params) : Obj := (ob (.type "tuple") (.seq #[(.str n71 573)] 0))
noncomputable def o1230 (P : Params) : Obj := (ob (.type "code") (.fields #[(.str n170 449), (.str n170 450), (.str n237 451), (.int 128 0), (.int 1 0), (.int 0 0), (.int 0 0), (.int 3 0), (.ref 182), (.bool true), (.int 181 0), (.ref 183), .none, (.ref 184), (.ref 185), (.ref 186), (.int 453 0), (.int 128 0), (.str n237 454)]))
noncomputable def o1186 (P : Params) : Obj := (ob (.type "tuple") (.seq #[] 0))
noncomputable def o1486 (P : Params) : Obj := (ob (.type "tuple") (.seq #[(.str n96 773), (.str n146 774)] 0))
noncomputable def o1386 (P : Params) : Obj := (ob (.type "tuple") (.seq #[(.str n96 661), (.str n129 662)] 0))
noncomputable def o1227 (P : Params) : Obj := (ob (.type "tuple") (.seq #[(.str n46 452)] 0))
noncomputable def o1360 (P : Params) : Obj := (ob (.type "code") (.fields #[(.str n121 621), (.str n255 622), (.str n237 623), (.int 230 0), (.int 2 0), (.int 0 0), (.int 0 0), (.int 3 0), (.ref 308), (.bool true), (.int 181 0), (.ref 309), .none, (.ref 310), (.ref 311), (.ref 312), (.int 626 0), (.int 230 0), (.str n237 627)]))
noncomputable def o1077 (P : Params) : Obj := (ob (.type "dict") (.dict #[(en P n249 203 (.str n232 194)), (en P n250 207 (.int 5 206)), (en P n95 218 (.ref 37)), (en P n48 225 (.ref 44)), (en P n251 228 (.ref 45)), (en P n253 230 (.ref 48)), (en P n240 231 .none)] 3))
noncomputable def o1123 (P : Params) : Obj := (ob (.type "tuple") (.seq #[] 0))
noncomputable def o1437 (P : Params) : Obj := (ob (.type "tuple") (.seq #[(.str n96 717), (.str n8 718), (.str n118 719)] 0))
noncomputable def o1611 (P : Params) : Obj := (ob (.type "code") (.fields #[(.str n48 817), (.str n256 818), (.str n237 819), (.int 344 0), (.int 1 0), (.int 0 0), (.int 0 0), (.int 3 0), (.ref 467), (.bool true), (.int 181 0), (.ref 468), .none, (.ref 469), (.ref 470), (.ref 471), (.int 821 0), (.int 344 0), (.str n237 822)]))
noncomputable def o1648 (P : Params) : Obj := fO (o := hB 55) rfl .none n47 n47 0 [] .none .none .none .none none .none .none 0
noncomputable def o1546 (P : Params) : Obj := (ob (.type "tuple") (.seq #[(.str n96 641), (.str n92 642), (.str n118 643), (.str n125 644)] 0))
noncomputable def o1402 (P : Params) : Obj := fO (o := hC 47 9) rfl .none n133 n239 0 [] .none .none .none .none none .none .none 0
noncomputable def o1244 (P : Params) : Obj := (ob (.type "code") (.fields #[(.str n184 465), (.str n184 466), (.str n237 467), (.int 135 0), (.int 2 0), (.int 0 0), (.int 0 0), (.int 3 0), (.ref 196), (.bool true), (.int 181 0), (.ref 197), .none, (.ref 198), (.ref 199), (.ref 200), (.int 472 0), (.int 135 0), (.str n237 473)]))
noncomputable def o1582 (P : Params) : Obj := (ob (.type "tuple") (.seq #[] 0))
noncomputable def o1248 (P : Params) : Obj := (ob (.type "tuple") (.seq #[(.str n46 478), (.str n172 479), (.str n146 480), (.str n8 481)] 0))
noncomputable def o1456 (P : Params) : Obj := (ob (.type "tuple") (.seq #[] 0))
noncomputable def o1302 (P : Params) : Obj := (ob (.type "code") (.fields #[(.str n158 547), (.str n158 548), (.str n237 549), (.int 188 0), (.int 1 0), (.int 0 0), (.int 0 0), (.int 3 0), (.ref 252), (.bool true), (.int 181 0), (.ref 253), .none, (.ref 254), (.ref 255), (.ref 256), (.int 551 0), (.int 188 0), (.str n237 552)]))
noncomputable def o1610 (P : Params) : Obj := fO (o := hC 49 1) rfl .none n48 n256 0 [] .none .none .none .none none .none .none 0
noncomputable def o1589 (P : Params) : Obj := (ob .none (.fields #[(.int 1 0), (.int 0 0), (.ref 20), (.int 5 0), (.int 0 0), (.ref 27), (.int 14 0), (.int 0 0), (.ref 56), (.int 16 0), (.int 0 0), (.ref 68), (.int 20 0), (.int 0 0), (.ref 80), (.int 24 0), (.int 0 0), (.ref 88), (.int 31 0), (.int 0 0), (.ref 95), (.int 33 0), (.int 0 0), (.ref 102), (.int 41 0), (.int 0 0), (.ref 109), (.int 43 0), (.int 0 0), (.ref 116), (.int 45 0), (.int 0 0), (.ref 123), (.int 50 0), (.int 0 0), (.ref 130), (.int 68 0), (.int 0 0), (.ref 138), (.int 81 0), (.int 0 0), (.ref 145), (.int 89 0), (.int 0 0), (.ref 152), (.int 96 0), (.int 0 0), (.ref 159), (.int 106 0), (.int 0 0), (.ref 166), (.int 113 0), (.int 0 0), (.ref 173), (.int 117 0), (.int 0 0), (.ref 180), (.int 128 0), (.int 0 0), (.ref 187), (.int 130 0), (.int 0 0), (.ref 194), (.int 135 0), (.int 0 0), (.ref 201), (.int 143 0), (.int 0 0), (.ref 208), (.int 149 0), (.int 0 0), (.ref 215), (.int 159 0), (.int 0 0), (.ref 222), (.int 164 0), (.int 0 0), (.ref 229), (.int 170 0), (.int 0 0), (.ref 236), (.int 180 0), (.int 0 0), (.ref 243), (.int 183 0), (.int 0 0), (.ref 250), (.int 188 0), (.int 0 0), (.ref 257), (.int 192 0), (.int 0 0), (.ref 264), (.int 207 0), (.int 0 0), (.ref 271), (.int 209 0), (.int 0 0), (.ref 276), (.int 214 0), (.int 0 0), (.ref 283), (.int 336 0), (.int 0 0), (.ref 456), (.int 347 0), (.int 0 0), (.ref 484), (.int 350 0), (.int 0 0), (.ref 491), (.int 359 0), (.int 0 0), (.ref 498), (.int 361 0), (.int 0 0), (.ref 503)]))
noncomputable def o1336 (P : Params) : Obj := (ob (.type "tuple") (.seq #[] 0))
noncomputable def o1305 (P : Params) : Obj := (ob .none (.fields #[]))
noncomputable def o1529 (P : Params) : Obj := (ob (.type "tuple") (.seq #[] 0))
noncomputable def o1490 (P : Params) : Obj := fO (o := hC 47 21) rfl (.type "function") n154 n257 3 [] .none .none .none (.str n164 564) none (.ref 442) .none 0
noncomputable def o1132 (P : Params) : Obj := (ob (.type "code") (.fields #[(.str n148 289), (.str n148 290), (.str n237 291), (.int 31 0), (.int 1 0), (.int 0 0), (.int 0 0), (.int 3 0), (.ref 90), (.bool true), (.int 181 0), (.ref 91), .none, (.ref 92), (.ref 93), (.ref 94), (.int 293 0), (.int 31 0), (.str n237 294)]))
noncomputable def o1188 (P : Params) : Obj := (ob (.type "tuple") (.seq #[(.str n46 402), (.str n194 403), (.str n208 404), (.str n209 405)] 0))
noncomputable def o1310 (P : Params) : Obj := fO (o := hB 41) rfl (.type "function") n49 n49 3 [] .none .none .none (.str n167 545) none (.ref 264) .none 0
noncomputable def o1545 (P : Params) : Obj := (ob .none (.fields #[]))
noncomputable def o1294 (P : Params) : Obj := fO (o := hB 38) rfl .none n159 n159 0 [] .none .none .none .none none .none .none 0
noncomputable def o1401 (P : Params) : Obj := (ob (.type "tuple") (.seq #[] 0))
noncomputable def o1382 (P : Params) : Obj := (ob (.type "code") (.fields #[(.str n128 648), (.str n258 649), (.str n237 650), (.int 246 0), (.int 2 0), (.int 0 0), (.int 0 0), (.int 3 0), (.ref 330), (.bool true), (.int 181 0), (.ref 331), .none, (.ref 332), (.ref 333), (.ref 334), (.int 655 0), (.int 246 0), (.str n237 656)]))
noncomputable def o1427 (P : Params) : Obj := (ob (.type "tuple") (.seq #[] 0))
noncomputable def o1251 (P : Params) : Obj := (ob (.type "code") (.fields #[(.str n171 475), (.str n171 476), (.str n237 477), (.int 143 0), (.int 2 0), (.int 0 0), (.int 0 0), (.int 3 0), (.ref 203), (.bool true), (.int 181 0), (.ref 204), .none, (.ref 205), (.ref 206), (.ref 207), (.int 482 0), (.int 143 0), (.str n237 483)]))
noncomputable def o1420 (P : Params) : Obj := (ob (.type "tuple") (.seq #[] 0))
noncomputable def o1104 (P : Params) : Obj := (ob .none (.fields #[]))
noncomputable def o1668 (P : Params) : Obj := (ob (.type "tuple") (.seq #[] 0))
noncomputable def o1583 (P : Params) : Obj := fO (o := hC 47 10) rfl .none n71 n259 0 [] .none .none .none .none none .none .none 0
noncomputable def o1328 (P : Params) : Obj := (ob (.type "tuple") (.seq #[] 0))
noncomputable def o1314 (P : Params) : Obj := (ob (.type "tuple") (.seq #[] 0))
noncomputable def o1425 (P : Params) : Obj := (ob (.type "code") (.fields #[(.str n136 699), (.str n260 700), (.str n237 701), (.int 278 0), (.int 1 0), (.int 0 0), (.int 0 0), (.int 3 0), (.ref 373), (.bool true), (.int 181 0), (.ref 374), .none, (.ref 375), (.ref 376), (.ref 377), (.int 703 0), (.int 278 0), (.str n237 704)]))
noncomputable def o1280 (P : Params) : Obj := fO (o := hB 34) rfl (.type "function") n182 n182 3 [] .none .none .none (.str n196 445) none (.ref 236) .none 0
noncomputable def o1240 (P : Params) : Obj := (ob .none (.fields #[]))
noncomputable def o1560 (P : Params) : Obj := (ob (.type "tuple") (.seq #[(.str n96 661), (.str n129 662)] 0))
noncomputable def o1105 (P : Params) : Obj := (ob (.type "code") (.fields #[(.str n58 254), (.str n58 255), (.str n237 256), (.int 16 0), (.int 0 0), (.int 0 0), (.int 0 0), (.int 0 0), (.ref 66), (.bool false), (.int 181 0), (.ref 67), .none, .none, .none, .none, (.int 257 0), (.int 16 0), (.str n237 258)]))
noncomputable def o1430 (P : Params) : Obj := (ob (.type "tuple") (.seq #[] 0))
noncomputable def o1428 (P : Params) : Obj := (ob .none (.fields #[]))
noncomputable def o1514 (P : Params) : Obj := (ob (.type "tuple") (.seq #[(.int 0 605)] 0))
noncomputable def o1100 (P : Params) : Obj := (ob (.type "tuple") (.seq #[(.ref 47)] 0))
noncomputable def o1363 (P : Params) : Obj := (ob .none (.fields #[]))
noncomputable def o1426 (P : Params) : Obj := fO (o := hC 47 12) rfl (.type "function") n136 n260 3 [] .none .none .none (.str n164 564) none (.ref 378) .none 0
noncomputable def o1683 (P : Params) : Obj := fO (o := hB 60) rfl (.type "function") n60 n60 3 [] .none .none .none (.str n99 836) none (.ref 541) .none 0
noncomputable def o1618 (P : Params) : Obj := (ob (.type "super") (.fields #[(.ref 476), (.ref 476), (.ref 476)]))
noncomputable def o1647 (P : Params) : Obj := (ob .none (.fields #[]))
noncomputable def o1093 (P : Params) : Obj := (ob (.type "dict") (.dict #[(en P n249 243 (.str n232 194)), (en P n250 247 (.int 14 246)), (en P n251 248 (.ref 58)), (en P n240 249 .none)] 2))
noncomputable def o1664 (P : Params) : Obj := fO (o := hB 57) rfl (.type "function") n0 n0 3 [] .none .none .none (.str n99 836) none (.ref 522) .none 0
noncomputable def o1482 (P : Params) : Obj := (ob (.type "code") (.fields #[(.str n17 763), (.str n238 764), (.str n237 765), (.int 322 0), (.int 1 0), (.int 0 0), (.int 0 0), (.int 3 0), (.ref 430), (.bool true), (.int 181 0), (.ref 431), .none, (.ref 432), (.ref 433), (.ref 434), (.int 767 0), (.int 322 0), (.str n237 768)]))
noncomputable def o1334 (P : Params) : Obj := (ob .none (.fields #[]))
noncomputable def o1383 (P : Params) : Obj := fO (o := hC 47 6) rfl (.type "function") n128 n258 3 [] .none .none .none (.str n164 564) none (.ref 335) .none 0
noncomputable def o1325 (P : Params) : Obj := (ob (.type "tuple") (.seq #[] 0))
noncomputable def o1359 (P : Params) : Obj := fO (o := hC 47 3) rfl .none n121 n255 0 [] .none .none .none .none none .none .none 0
noncomputable def o1438 (P : Params) : Obj := (ob (.type "tuple") (.seq #[] 0))
noncomputable def o1238 (P : Params) : Obj := fO (o := hB 28) rfl (.type "function") n174 n174 3 [] .none .none .none (.str n196 445) none (.ref 194) .none 0
noncomputable def o1163 (P : Params) : Obj := fO (o := hB 13) rfl (.type "function") n215 n215 3 [] .none .none .none (.str n235 268) none (.ref 123) .none 0
noncomputable def o1567 (P : Params) : Obj := (ob (.type "tuple") (.seq #[(.str n96 669), (.str n129 670)] 0))
noncomputable def o1281 (P : Params) : Obj := (ob (.type "dict") (.dict #[(en P n98 165 (.str n164 564)), (en P n240 166 .none), (en P n241 167 .none), (en P n242 168 (.builtin "__main__.__loader__#opaque")), (en P n243 169 .none), (en P n244 170 (.ref 6)), (en P n245 171 (.ref 4)), (en P n246 173 (.str n237 172)), (en P n247 174 .none), (en P n120 193 (.ref 21)), (en P n233 235 (.ref 47)), (en P n219 251 (.ref 60)), (en P n58 267 (.ref 72)), (en P n217 271 (.str n236 270)), (en P n224 279 (.ref 81)), (en P n223 288 (.ref 89)), (en P n148 295 (.ref 96)), (en P n214 306 (.ref 103)), (en P n151 313 (.ref 110)), (en P n152 320 (.ref 117)), (en P n215 329 (.ref 124)), (en P n147 342 (.ref 131)), (en P n198 346 (.int 7 345)), (en P n193 380 (.ref 132)), (en P n204 389 (.ref 139)), (en P n205 398 (.ref 146)), (en P n207 408 (.ref 153)), (en P n195 420 (.ref 160)), (en P n190 428 (.ref 167)), (en P n191 435 (.ref 174)), (en P n169 444 (.ref 181)), (en P n187 448 (.int 20 447)), (en P n170 455 (.ref 188)), (en P n174 464 (.ref 195)), (en P n184 474 (.ref 202)), (en P n171 484 (.ref 209)), (en P n173 495 (.ref 216)), (en P n179 504 (.ref 223)), (en P n177 513 (.ref 230)), (en P n182 523 (.ref 237)), (en P n166 527 (.str n186 526)), (en P n161 537 (.ref 244)), (en P n159 544 (.ref 251)), (en P n158 553 (.ref 258)), (en P n49 563 (.ref 265)), (en P n113 567 (.int 255 566)), (en P n109 569 (.str n165 568)), (en P n108 576 (.ref 272)), (en P n110 582 (.ref 277))] 49))
noncomputable def o1443 (P : Params) : Obj := (ob .none (.fields #[]))
noncomputable def o1682 (P : Params) : Obj := (ob (.type "code") (.fields #[(.str n60 917), (.str n60 918), (.str n237 919), (.int 386 0), (.int 1 0), (.int 0 0), (.int 0 0), (.int 3 0), (.ref 538), (.bool true), (.int 181 0), (.ref 539), .none, .none, .none, (.ref 540), (.int 920 0), (.int 386 0), (.str n237 921)]))
noncomputable def o1299 (P : Params) : Obj := (ob (.type "tuple") (.seq #[(.str n46 550)] 0))
noncomputable def o1179 (P : Params) : Obj := (ob (.type "tuple") (.seq #[] 0))
noncomputable def o1218 (P : Params) : Obj := (ob (.type "tuple") (.seq #[] 0))
noncomputable def o1599 (P : Params) : Obj := (ob (.type "tuple") (.seq #[] 0))
noncomputable def o1255 (P : Params) : Obj := (ob (.type "tuple") (.seq #[(.str n46 488), (.str n172 489), (.str n8 490), (.str n178 491), (.str n146 492)] 0))
noncomputable def o1274 (P : Params) : Obj := (ob (.type "tuple") (.seq #[] 0))
noncomputable def o1392 (P : Params) : Obj := (ob .none (.fields #[]))
noncomputable def o1235 (P : Params) : Obj := (ob (.type "tuple") (.seq #[] 0))
noncomputable def o1680 (P : Params) : Obj := (ob .none (.fields #[]))
noncomputable def o1499 (P : Params) : Obj := (ob (.type "tuple") (.seq #[] 0))
noncomputable def o1564 (P : Params) : Obj := fO (o := hC 47 7) rfl (.type "function") n130 n261 3 [] .none .none .none (.str n164 564) none (.ref 342) .none 0
noncomputable def o1124 (P : Params) : Obj := fO (o := hB 8) rfl .none n223 n223 0 [] .none .none .none .none none .none .none 0
noncomputable def o1361 (P : Params) : Obj := fO (o := hC 47 3) rfl (.type "function") n121 n255 3 [] .none .none .none (.str n164 564) none (.ref 313) .none 0
noncomputable def o1387 (P : Params) : Obj := (ob (.type "tuple") (.seq #[] 0))
noncomputable def o1539 (P : Params) : Obj := (ob (.type "tuple") (.seq #[] 0))
noncomputable def o1159 (P : Params) : Obj := (ob (.type "tuple") (.seq #[(.str n216 324), (.str n3 325), (.str n27 326)] 0))
noncomputable def o1126 (P : Params) : Obj := fO (o := hB 8) rfl (.type "function") n223 n223 3 [] (.ref 82) .none .none (.str n235 268) none (.ref 88) .none 0
noncomputable def o1485 (P : Params) : Obj := (ob .none (.fields #[]))
noncomputable def o1554 (P : Params) : Obj := (ob (.type "tuple") (.seq #[] 0))
noncomputable def o1047 (P : Params) : Obj := (ob .none (.fields #[]))
noncomputable def o1121 (P : Params) : Obj := (ob .none (.fields #[]))
noncomputable def o1658 (P : Params) : Obj := (ob (.type "tuple") (.seq #[] 0))
noncomputable def o1592 (P : Params) : Obj := (ob (.type "dict") (.dict #[(en P n249 799 (.str n156 790)), (en P n262 801 (.str n91 800)), (en P n250 803 (.int 336 802)), (en P n95 816 (.ref 466)), (en P n48 823 (.ref 473)), (en P n251 828 (.ref 474))] 6))
noncomputable def o1187 (P : Params) : Obj := (ob .none (.fields #[]))
noncomputable def o1598 (P : Params) : Obj := (ob (.type "tuple") (.seq #[(.ref 458), (.bool false)] 0))
noncomputable def o1470 (P : Params) : Obj := (ob (.type "tuple") (.seq #[] 0))
noncomputable def o1652 (P : Params) : Obj := (ob .none (.fields #[]))
noncomputable def o1335 (P : Params) : Obj := (ob (.type "tuple") (.seq #[(.str n96 599), (.str n40 600), (.str n54 601)] 0))
noncomputable def o1184 (P : Params) : Obj := (ob (.type "code") (.fields #[(.str n205 390), (.str n205 391), (.str n237 392), (.int 81 0), (.int 2 0), (.int 0 0), (.int 0 0), (.int 3 0), (.ref 140), (.bool true), (.int 181 0), (.ref 141), .none, (.ref 142), (.ref 143), (.ref 144), (.int 396 0), (.int 81 0), (.str n237 397)]))
noncomputable def o1086 (P : Params) : Obj := (ob (.type "builtin_function_or_method") (.fields #[(.builtin "type.__prepare__"), (.type "type")]))
noncomputable def o1516 (P : Params) : Obj := (ob .none (.fields #[]))
noncomputable def o1341 (P : Params) : Obj := (ob (.type "tuple") (.seq #[] 0))
noncomputable def o1052 (P : Params) : Obj := fO (o := hB 0) rfl (.type "function") n120 n120 3 [] .none .none .none (.str n263 164) none (.ref 20) .none 0
noncomputable def o1467 (P : Params) : Obj := fO (o := hC 47 18) rfl .none n143 n264 0 [] .none .none .none .none none .none .none 0
noncomputable def o1473 (P : Params) : Obj := (ob (.type "tuple") (.seq #[] 0))
noncomputable def o1081 (P : Params) : Obj := (ob (.type "builtin_function_or_method") (.fields #[(.builtin "object.__init_subclass__"), (.ref 47)]))
noncomputable def o1537 (P : Params) : Obj := (ob .none (.fields #[]))
noncomputable def o1322 (P : Params) : Obj := fO (o := hB 46) rfl (.type "function") n110 n110 3 [] .none .none .none (.str n164 564) none (.ref 276) .none 0
noncomputable def o1174 (P : Params) : Obj := (ob (.type "tuple") (.seq #[(.str n46 384), (.str n172 385), (.str n118 386)] 0))
noncomputable def o1474 (P : Params) : Obj := fO (o := hC 47 19) rfl .none n149 n254 0 [] .none .none .none .none none .none .none 0
noncomputable def o1231 (P : Params) : Obj := fO (o := hB 27) rfl (.type "function") n170 n170 3 [] .none .none .none (.str n196 445) none (.ref 187) .none 0
noncomputable def o1423 (P : Params) : Obj := (ob (.type "tuple") (.seq #[] 0))
noncomputable def o1478 (P : Params) : Obj := (ob .none (.fields #[]))
noncomputable def o1264 (P : Params) : Obj := fO (o := hB 32) rfl .none n179 n179 0 [] .none .none .none .none none .none .none 0
noncomputable def o1129 (P : Params) : Obj := (ob (.type "tuple") (.seq #[(.str n213 292)] 0))
noncomputable def o1054 (P : Params) : Obj := (ob (.type "builtin_function_or_method") (.fields #[(.builtin "type.__prepare__"), (.type "type")]))
noncomputable def o1214 (P : Params) : Obj := (ob (.type "tuple") (.seq #[] 0))
noncomputable def o1555 (P : Params) : Obj := fO (o := hC 47 6) rfl .none n128 n258 0 [] .none .none .none .none none .none .none 0
noncomputable def o1581 (P : Params) : Obj := (ob (.type "tuple") (.seq #[(.str n96 686)] 0))
noncomputable def o1639 (P : Params) : Obj := (ob (.type "tuple") (.seq #[] 0))
noncomputable def o1290 (P : Params) : Obj := (ob (.type "tuple") (.seq #[] 0))
noncomputable def o1342 (P : Params) : Obj := (ob .none (.fields #[]))
noncomputable def o1261 (P : Params) : Obj := (ob .none (.fields #[]))
noncomputable def o1246 (P : Params) : Obj := (ob (.type "tuple") (.seq #[] 0))
noncomputable def o1338 (P : Params) : Obj := (ob (.type "code") (.fields #[(.str n95 596), (.str n265 597), (.str n237 598), (.int 216 0), (.int 3 0), (.int 0 0), (.int 0 0), (.int 3 0), (.ref 286), (.bool true), (.int 181 0), (.ref 287), .none, (.ref 288), (.ref 289), (.ref 290), (.int 602 0), (.int 216 0), (.str n237 603)]))
noncomputable def o1355 (P : Params) : Obj := (ob (.type "tuple") (.seq #[] 0))
noncomputable def o1391 (P : Params) : Obj := (ob (.type "tuple") (.seq #[] 0))
noncomputable def o1540 (P : Params) : Obj := fO (o := hC 47 4) rfl .none n124 n266 0 [] .none .none .none .none none .none .none 0
noncomputable def o1064 (P : Params) : Obj := (ob (.type "tuple") (.seq #[(.str n96 213), (.str n122 214), (.str n54 215)] 0))
noncomputable def o1634 (P : Params) : Obj := (ob (.type "tuple") (.seq #[(.str n77 858), (.str n87 859)] 0))
noncomputable def o1630 (P : Params) : Obj := (ob (.type "code") (.fields #[(.str n83 844), (.str n83 845), (.str n237 846), (.int 350 0), (.int 2 0), (.int 0 0), (.int 0 0), (.int 3 0), (.ref 486), (.bool true), (.int 181 0), (.ref 487), .none, (.ref 488), (.ref 489), (.ref 490), (.int 852 0), (.int 350 0), (.str n237 853)]))
noncomputable def o1143 (P : Params) : Obj := (ob (.type "tuple") (.seq #[(.str n213 310)] 0))
noncomputable def o1089 (P : Params) : Obj := (ob .none (.fields #[]))
noncomputable def o1674 (P : Params) : Obj := (ob (.type "tuple") (.seq #[(.str n40 911), (.str n57 912), (.str n59 913)] 0))
noncomputable def o1295 (P : Params) : Obj := (ob (.type "code") (.fields #[(.str n159 538), (.str n159 539), (.str n237 540), (.int 183 0), (.int 1 0), (.int 0 0), (.int 0 0), (.int 3 0), (.ref 245), (.bool true), (.int 181 0), (.ref 246), .none, (.ref 247), (.ref 248), (.ref 249), (.int 542 0), (.int 183 0), (.str n237 543)]))
noncomputable def o1279 (P : Params) : Obj := (ob (.type "code") (.fields #[(.str n182 514), (.str n182 515), (.str n237 516), (.int 170 0), (.int 2 0), (.int 0 0), (.int 0 0), (.int 3 0), (.ref 231), (.bool true), (.int 181 0), (.ref 232), .none, (.ref 233), (.ref 234), (.ref 235), (.int 521 0), (.int 170 0), (.str n237 522)]))
noncomputable def o1621 (P : Params) : Obj := (ob .none (.fields #[]))
noncomputable def o1656 (P : Params) : Obj := (ob (.type "code") (.fields #[(.str n13 875), (.str n13 876), (.str n237 877), (.int 365 0), (.int 2 0), (.int 0 0), (.int 0 0), (.int 3 0), (.ref 510), (.bool true), (.int 181 0), (.ref 511), .none, (.ref 512), (.ref 513), (.ref 514), (.int 880 0), (.int 365 0), (.str n237 881)]))
noncomputable def o1675 (P : Params) : Obj := (ob (.type "tuple") (.seq #[] 0))
noncomputable def o1643 (P : Params) : Obj := fO (o := hB 54) rfl (.type "function") n19 n19 3 [] .none .none .none (.str n99 836) none (.ref 503) .none 0
noncomputable def o1659 (P : Params) : Obj := (ob .none (.fields #[]))
noncomputable def o1182 (P : Params) : Obj := (ob (.type "tuple") (.seq #[] 0))
noncomputable def o1292 (P : Params) : Obj := (ob (.type "tuple") (.seq #[(.str n46 541)] 0))
noncomputable def o1091 (P : Params) : Obj := (.mk (.type "frame") none .plain #[(some (.ref 56)), (some (.ref 3)), (some (.ref 53)), none, (some (.str n232 194)), none, (some (.ref 0))])
noncomputable def o1468 (P : Params) : Obj := (ob (.type "code") (.fields #[(.str n143 746), (.str n264 747), (.str n237 748), (.int 304 0), (.int 1 0), (.int 0 0), (.int 0 0), (.int 3 0), (.ref 416), (.bool true), (.int 181 0), (.ref 417), .none, (.ref 418), (.ref 419), (.ref 420), (.int 752 0), (.int 304 0), (.str n237 753)]))
noncomputable def o1405 (P : Params) : Obj := (ob (.type "tuple") (.seq #[] 0))
noncomputable def o1413 (P : Params) : Obj := (ob (.type "tuple") (.seq #[] 0))
noncomputable def o1293 (P : Params) : Obj := (ob (.type "tuple") (.seq #[] 0))
noncomputable def o1347 (P : Params) : Obj := fO (o := hC 47 1) rfl (.type "function") n117 n267 3 [] (.ref 293) .none .none (.str n164 564) none (.ref 299) .none 0
noncomputable def o1377 (P : Params) : Obj := (ob (.type "tuple") (.seq #[] 0))
noncomputable def o1665 (P : Params) : Obj := (ob (.type "tuple") (.seq #[] 0))
noncomputable def o1469 (P : Params) : Obj := fO (o := hC 47 18) rfl (.type "function") n143 n264 3 [] .none .none .none (.str n164 564) none (.ref 421) .none 0
noncomputable def o1547 (P : Params) : Obj := (ob (.type "tuple") (.seq #[] 0))
noncomputable def o1195 (P : Params) : Obj := (ob (.type "dict") (.dict #[(en P n98 165 (.str n196 445)), (en P n240 166 .none), (en P n241 167 .none), (en P n242 168 (.builtin "__main__.__loader__#opaque")), (en P n243 169 .none), (en P n244 170 (.ref 6)), (en P n245 171 (.ref 4)), (en P n246 173 (.str n237 172)), (en P n247 174 .none), (en P n120 193 (.ref 21)), (en P n233 235 (.ref 47)), (en P n219 251 (.ref 60)), (en P n58 267 (.ref 72)), (en P n217 271 (.str n236 270)), (en P n224 279 (.ref 81)), (en P n223 288 (.ref 89)), (en P n148 295 (.ref 96)), (en P n214 306 (.ref 103)), (en P n151 313 (.ref 110)), (en P n152 320 (.ref 117)), (en P n215 329 (.ref 124)), (en P n147 342 (.ref 131)), (en P n198 346 (.int 7 345)), (en P n193 380 (.ref 132)), (en P n204 389 (.ref 139)), (en P n205 398 (.ref 146)), (en P n207 408 (.ref 153)), (en P n195 420 (.ref 160)), (en P n190 428 (.ref 167)), (en P n191 435 (.ref 174)), (en P n169 444 (.ref 181)), (en P n187 448 (.int 20 447)), (en P n170 455 (.ref 188)), (en P n174 464 (.ref 195)), (en P n184 474 (.ref 202)), (en P n171 484 (.ref 209)), (en P n173 495 (.ref 216)), (en P n179 504 (.ref 223)), (en P n177 513 (.ref 230)), (en P n182 523 (.ref 237))] 40))
noncomputable def o1607 (P : Params) : Obj := (ob .none (.fields #[]))
noncomputable def o1276 (P : Params) : Obj := (ob (.type "tuple") (.seq #[(.str n46 517), (.str n172 518), (.str n146 519)] 0))
noncomputable def o1271 (P : Params) : Obj := fO (o := hB 33) rfl .none n177 n177 0 [] .none .none .none .none none .none .none 0
noncomputable def o1330 (P : Params) : Obj := (ob (.type "code") (.fields #[(.str n90 585), (.str n90 586), (.str n237 587), (.int 214 0), (.int 0 0), (.int 0 0), (.int 0 0), (.int 0 0), (.ref 281), (.bool false), (.int 181 0), (.ref 282), .none, .none, .none, .none, (.int 588 0), (.int 214 0), (.str n237 589)]))
noncomputable def o1082 (P : Params) : Obj := (ob (.type "dict") (.dict #[(en P n98 165 (.str n232 194)), (en P n240 166 .none), (en P n241 167 .none), (en P n242 168 (.builtin "__main__.__loader__#opaque")), (en P n243 169 .none), (en P n244 170 (.ref 6)), (en P n245 171 (.ref 4)), (en P n246 173 (.str n237 172)), (en P n247 174 .none), (en P n120 193 (.ref 21)), (en P n233 235 (.ref 47)), (en P n219 251 (.ref 60))] 12))
noncomputable def o1445 (P : Params) : Obj := (ob (.type "tuple") (.seq #[] 0))
noncomputable def o1414 (P : Params) : Obj := (ob .none (.fields #[]))
noncomputable def o1418 (P : Params) : Obj := (ob (.type "code") (.fields #[(.str n135 691), (.str n268 692), (.str n237 693), (.int 275 0), (.int 2 0), (.int 0 0), (.int 0 0), (.int 3 0), (.ref 366), (.bool true), (.int 181 0), (.ref 367), .none, (.ref 368), (.ref 369), (.ref 370), (.int 696 0), (.int 275 0), (.str n237 697)]))
noncomputable def o1632 (P : Params) : Obj := (ob (.type "tuple") (.seq #[] 0))
noncomputable def o1491 (P : Params) : Obj := (ob (.type "tuple") (.seq #[(.str n54 778), (.str n115 779), (.str n116 780), (.str n40 781)] 0))
noncomputable def o1569 (P : Params) : Obj := fO (o := hC 47 8) rfl .none n131 n269 0 [] .none .none .none .none none .none .none 0
noncomputable def o1614 (P : Params) : Obj := (ob (.type "dict") (.dict #[(en P n249 799 (.str n156 790)), (en P n250 803 (.int 336 802)), (en P n95 816 (.ref 466)), (en P n48 823 (.ref 473)), (en P n251 828 (.ref 474)), (en P n252 830 (.ref 477)), (en P n253 832 (.ref 478)), (en P n240 833 .none)] 4))
noncomputable def o1534 (P : Params) : Obj := (ob (.type "code") (.fields #[(.str n121 621), (.str n255 622), (.str n237 623), (.int 230 0), (.int 2 0), (.int 0 0), (.int 0 0), (.int 3 0), (.ref 308), (.bool true), (.int 181 0), (.ref 309), .none, (.ref 310), (.ref 311), (.ref 312), (.int 626 0), (.int 230 0), (.str n237 627)]))
noncomputable def o1429 (P : Params) : Obj := (ob (.type "tuple") (.seq #[(.str n96 709)] 0))
noncomputable def o1394 (P : Params) : Obj := (ob (.type "tuple") (.seq #[] 0))
noncomputable def o1625 (P : Params) : Obj := (ob (.type "tuple") (.seq #[] 0))
noncomputable def o1461 (P : Params) : Obj := (ob (.type "code") (.fields #[(.str n142 739), (.str n270 740), (.str n237 741), (.int 299 0), (.int 1 0), (.int 0 0), (.int 0 0), (.int 3 0), (.ref 409), (.bool true), (.int 181 0), (.ref 410), .none, (.ref 411), (.ref 412), (.ref 413), (.int 743 0), (.int 299 0), (.str n237 744)]))
noncomputable def o1636 (P : Params) : Obj := fO (o := hB 53) rfl .none n80 n80 0 [] .none .none .none .none none .none .none 0
noncomputable def o1245 (P : Params) : Obj := fO (o := hB 29) rfl (.type "function") n184 n184 3 [] .none .none .none (.str n196 445) none (.ref 201) .none 0
noncomputable def o1067 (P : Params) : Obj := (ob (.type "code") (.fields #[(.str n95 210), (.str n271 211), (.str n237 212), (.int 7 0), (.int 3 0), (.int 0 0), (.int 0 0), (.int 3 0), (.ref 31), (.bool true), (.int 181 0), (.ref 32), .none, (.ref 33), (.ref 34), (.ref 35), (.int 216 0), (.int 7 0), (.str n237 217)]))
noncomputable def o1552 (P : Params) : Obj := (ob .none (.fields #[]))
noncomputable def o1272 (P : Params) : Obj := (ob (.type "code") (.fields #[(.str n177 505), (.str n177 506), (.str n237 507), (.int 164 0), (.int 2 0), (.int 0 0), (.int 0 0), (.int 3 0), (.ref 224), (.bool true), (.int 181 0), (.ref 225), .none, (.ref 226), (.ref 227), (.ref 228), (.int 511 0), (.int 164 0), (.str n237 512)]))
noncomputable def o1441 (P : Params) : Obj := fO (o := hC 47 14) rfl (.type "function") n139 n272 3 [] (.ref 387) .none .none (.str n164 564) none (.ref 393) .none 0
noncomputable def o1319 (P : Params) : Obj := (ob .none (.fields #[]))
noncomputable def o1411 (P : Params) : Obj := fO (o := hC 47 10) rfl (.type "function") n71 n259 3 [] .none .none .none (.str n164 564) none (.ref 363) .none 0
noncomputable def o1206 (P : Params) : Obj := (ob (.type "tuple") (.seq #[(.str n46 424), (.str n27 425)] 0))
noncomputable def o1267 (P : Params) : Obj := (ob (.type "tuple") (.seq #[] 0))
noncomputable def o1094 (P : Params) : Obj := (.mk (.type "type") none (.cls (.mk n219 [(.ref 47)] [(.ref 60), (.ref 47), (.type "Exception"), (.type "BaseException"), (.type "object")] 59 n219 true [] [] false none false)) #[(some (.ref 51)), none, (some (.str n219 236)), (some (.str n219 244)), (some (.builtin "Exception.__new__")), (some (.bool true))])
noncomputable def o1176 (P : Params) : Obj := fO (o := hB 18) rfl .none n204 n204 0 [] .none .none .none .none none .none .none 0
noncomputable def o1497 (P : Params) : Obj := (ob (.type "builtin_function_or_method") (.fields #[(.builtin "object.__init_subclass__"), (.ref 446)]))
noncomputable def o1189 (P : Params) : Obj := (ob (.type "tuple") (.seq #[] 0))
noncomputable def o1517 (P : Params) : Obj := (ob (.type "tuple") (.seq #[(.str n96 609), (.str n118 610)] 0))
noncomputable def o1197 (P : Params) : Obj := (ob (.type "tuple") (.seq #[] 0))
noncomputable def o1399 (P : Params) : Obj := (ob .none (.fields #[]))
noncomputable def o1285 (P : Params) : Obj := (ob (.type "tuple") (.seq #[(.str n46 531), (.str n118 532), (.str n71 533), (.str n125 534)] 0))
noncomputable def o1315 (P : Params) : Obj := fO (o := hB 45) rfl .none n108 n108 0 [] .none .none .none .none none .none .none 0
noncomputable def o1600 (P : Params) : Obj := (ob .none (.fields #[]))
noncomputable def o1650 (P : Params) : Obj := fO (o := hB 55) rfl (.type "function") n47 n47 3 [] .none .none .none (.str n99 836) none (.ref 508) .none 0
noncomputable def o1381 (P : Params) : Obj := fO (o := hC 47 6) rfl .none n128 n258 0 [] .none .none .none .none none .none .none 0
noncomputable def o1111 (P : Params) : Obj := (ob (.type "builtin_function_or_method") (.fields #[(.builtin "object.__init_subclass__"), (.ref 72)]))
noncomputable def o1225 (P : Params) : Obj := (ob (.type "tuple") (.seq #[] 0))
noncomputable def o1541 (P : Params) : Obj := (ob (.type "code") (.fields #[(.str n124 629), (.str n266 630), (.str n237 631), (.int 235 0), (.int 1 0), (.int 0 0), (.int 0 0), (.int 3 0), (.ref 315), (.bool true), (.int 181 0), (.ref 316), .none, (.ref 317), (.ref 318), (.ref 319), (.int 634 0), (.int 235 0), (.str n237 635)]))
noncomputable def o1092 (P : Params) : Obj := (ob (.type "tuple") (.seq #[] 0))
noncomputable def o1200 (P : Params) : Obj := (ob (.type "tuple") (.seq #[] 0))
noncomputable def o1421 (P : Params) : Obj := (ob .none (.fields #[]))
noncomputable def o1657 (P : Params) : Obj := fO (o := hB 56) rfl (.type "function") n13 n13 3 [] .none .none .none (.str n99 836) none (.ref 515) .none 0
noncomputable def o1601 (P : Params) : Obj := (ob (.type "tuple") (.seq #[(.str n96 809), (.str n92 810), (.str n93 811), (.str n54 812), (.str n97 813)] 0))
noncomputable def o1606 (P : Params) : Obj := (ob (.type "tuple") (.seq #[] 0))
noncomputable def o1169 (P : Params) : Obj := (ob (.type "code") (.fields #[(.str n147 330), (.str n147 331), (.str n237 332), (.int 50 0), (.int 1 0), (.int 0 0), (.int 0 0), (.int 3 0), (.ref 125), (.bool true), (.int 181 0), (.ref 126), .none, (.ref 127), (.ref 128), (.ref 129), (.int 340 0), (.int 50 0), (.str n237 341)]))
noncomputable def o1565 (P : Params) : Obj := (ob (.type "tuple") (.seq #[] 0))
noncomputable def o1627 (P : Params) : Obj := (ob (.type "tuple") (.seq #[(.str n77 847), (.str n104 848), (.str n81 849), (.str n105 850), (.str n107 851)] 0))
noncomputable def o1677 (P : Params) : Obj := (ob (.type "code") (.fields #[(.str n56 908), (.str n56 909), (.str n237 910), (.int 380 0), (.int 2 0), (.int 0 0), (.int 0 0), (.int 3 0), (.ref 531), (.bool true), (.int 181 0), (.ref 532), .none, (.ref 533), (.ref 534), (.ref 535), (.int 914 0), (.int 380 0), (.str n237 915)]))
noncomputable def o1578 (P : Params) : Obj := fO (o := hC 47 9) rfl (.type "function") n133 n239 3 [] .none .none .none (.str n164 564) none (.ref 356) .none 0
noncomputable def o1229 (P : Params) : Obj := fO (o := hB 27) rfl .none n170 n170 0 [] .none .none .none .none none .none .none 0
noncomputable def o1232 (P : Params) : Obj := (ob (.type "tuple") (.seq #[] 0))
noncomputable def o1605 (P : Params) : Obj := fO (o := hC 49 0) rfl (.type "function") n95 n273 3 [] (.ref 459) .none .none (.str n156 790) none (.ref 465) .none 0
noncomputable def o1612 (P : Params) : Obj := fO (o := hC 49 1) rfl (.type "function") n48 n256 3 [] .none .none .none (.str n156 790) none (.ref 472) .none 0
noncomputable def o1379 (P : Params) : Obj := (ob (.type "tuple") (.seq #[(.str n96 651), (.str n129 652), (.str n118 653), (.str n71 654)] 0))
noncomputable def o1460 (P : Params) : Obj := fO (o := hC 47 17) rfl .none n142 n270 0 [] .none .none .none .none none .none .none 0
noncomputable def o1262 (P : Params) : Obj := (ob (.type "tuple") (.seq #[(.str n46 499), (.str n125 500), (.str n39 501)] 0))
noncomputable def o1196 (P : Params) : Obj := (ob .none (.fields #[(.int 1 0), (.int 0 0), (.ref 20), (.int 5 0), (.int 0 0), (.ref 27), (.int 14 0), (.int 0 0), (.ref 56), (.int 16 0), (.int 0 0), (.ref 68), (.int 20 0), (.int 0 0), (.ref 80), (.int 24 0), (.int 0 0), (.ref 88), (.int 31 0), (.int 0 0), (.ref 95), (.int 33 0), (.int 0 0), (.ref 102), (.int 41 0), (.int 0 0), (.ref 109), (.int 43 0), (.int 0 0), (.ref 116), (.int 45 0), (.int 0 0), (.ref 123), (.int 50 0), (.int 0 0), (.ref 130), (.int 68 0), (.int 0 0), (.ref 138), (.int 81 0), (.int 0 0), (.ref 145), (.int 89 0), (.int 0 0), (.ref 152), (.int 96 0), (.int 0 0), (.ref 159), (.int 106 0), (.int 0 0), (.ref 166), (.int 113 0), (.int 0 0), (.ref 173), (.int 117 0), (.int 0 0), (.ref 180), (.int 128 0), (.int 0 0), (.ref 187), (.int 130 0), (.int 0 0), (.ref 194), (.int 135 0), (.int 0 0), (.ref 201), (.int 143 0), (.int 0 0), (.ref 208), (.int 149 0), (.int 0 0), (.ref 215), (.int 159 0), (.int 0 0), (.ref 222), (.int 164 0), (.int 0 0), (.ref 229), (.int 170 0), (.int 0 0), (.ref 236)]))
noncomputable def o1301 (P : Params) : Obj := fO (o := hB 40) rfl .none n158 n158 0 [] .none .none .none .none none .none .none 0
noncomputable def o1515 (P : Params) : Obj := (ob (.type "tuple") (.seq #[] 0))
noncomputable def o1101 (P : Params) : Obj := (ob (.type "builtin_function_or_method") (.fields #[(.builtin "type.__prepare__"), (.type "type")]))
noncomputable def o1291 (P : Params) : Obj := (ob .none (.fields #[]))
noncomputable def o1615 (P : Params) : Obj := (.mk (.type "type") none (.cls (.mk n91 [(.type "object")] [(.ref 476), (.type "object")] 475 n91 true [] [] false none false)) #[none, none, (some (.str n91 792)), (some (.str n91 800)), (some (.builtin "object.__new__")), (some (.bool true))])
noncomputable def o1065 (P : Params) : Obj := (ob (.type "tuple") (.seq #[] 0))
noncomputable def o1165 (P : Params) : Obj := (ob .none (.fields #[]))
noncomputable def o1352 (P : Params) : Obj := fO (o := hC 47 2) rfl .none n119 n274 0 [] .none .none .none .none none .none .none 0
noncomputable def o1084 (P : Params) : Obj := (.mk (.type "type") none (.cls (.mk n233 [(.type "Exception")] [(.ref 47), (.type "Exception"), (.type "BaseException"), (.type "object")] 46 n233 true [] [(.ref 60)] false none false)) #[(some (.ref 22)), none, (some (.str n233 196)), (some (.str n233 204)), (some (.builtin "Exception.__new__")), (some (.bool true))])
noncomputable def o1667 (P : Params) : Obj := (ob (.type "tuple") (.seq #[(.str n37 896), (.str n38 897), (.str n39 898), (.str n40 899), (.str n41 900), (.str n43 901), (.str n44 902), (.str n46 903), (.str n48 904)] 0))
noncomputable def o1150 (P : Params) : Obj := (ob (.type "tuple") (.seq #[] 0))
noncomputable def o1572 (P : Params) : Obj := (ob (.type "tuple") (.seq #[] 0))
noncomputable def o1395 (P : Params) : Obj := fO (o := hC 47 8) rfl .none n131 n269 0 [] .none .none .none .none none .none .none 0
noncomputable def o1154 (P : Params) : Obj := fO (o := hB 12) rfl .none n152 n152 0 [] .none .none .none .none none .none .none 0
noncomputable def o1072 (P : Params) : Obj := (ob (.type "tuple") (.seq #[] 0))
noncomputable def o1316 (P : Params) : Obj := (ob (.type "code") (.fields #[(.str n108 570), (.str n108 571), (.str n237 572), (.int 207 0), (.int 1 0), (.int 0 0), (.int 0 0), (.int 3 0), (.ref 266), (.bool true), (.int 181 0), (.ref 267), .none, (.ref 268), (.ref 269), (.ref 270), (.int 574 0), (.int 207 0), (.str n237 575)]))
noncomputable def o1676 (P : Params) : Obj := fO (o := hB 59) rfl .none n56 n56 0 [] .none .none .none .none none .none .none 0
noncomputable def o1375 (P : Params) : Obj := (ob (.type "code") (.fields #[(.str n127 638), (.str n275 639), (.str n237 640), (.int 242 0), (.int 3 0), (.int 0 0), (.int 0 0), (.int 3 0), (.ref 323), (.bool true), (.int 181 0), (.ref 324), .none, (.ref 325), (.ref 326), (.ref 327), (.int 645 0), (.int 242 0), (.str n237 646)]))
noncomputable def o1493 (P : Params) : Obj := (.mk (.type "type") none (.cls (.mk n90 [(.type "object")] [(.ref 446), (.type "object")] 445 n90 true [] [] false none false)) #[none, none, (some (.str n90 583)), (some (.str n90 591)), (some (.builtin "object.__new__")), (some (.bool true))])
noncomputable def o1662 (P : Params) : Obj := fO (o := hB 57) rfl .none n0 n0 0 [] .none .none .none .none none .none .none 0
noncomputable def o1389 (P : Params) : Obj := (ob (.type "code") (.fields #[(.str n130 658), (.str n261 659), (.str n237 660), (.int 254 0), (.int 2 0), (.int 0 0), (.int 0 0), (.int 3 0), (.ref 337), (.bool true), (.int 181 0), (.ref 338), .none, (.ref 339), (.ref 340), (.ref 341), (.int 663 0), (.int 254 0), (.str n237 664)]))
noncomputable def o1575 (P : Params) : Obj := (ob (.type "tuple") (.seq #[] 0))
noncomputable def o1459 (P : Params) : Obj := (ob (.type "tuple") (.seq #[] 0))
noncomputable def o1448 (P : Params) : Obj := fO (o := hC 47 15) rfl (.type "function") n140 n276 3 [] .none .none .none (.str n164 564) none (.ref 400) .none 0
noncomputable def o1102 (P : Params) : Obj := (ob (.type "dict") (.dict #[(en P n249 259 (.str n232 194)), (en P n262 261 (.str n58 260)), (en P n250 263 (.int 16 262)), (en P n251 264 (.ref 70))] 4))
noncomputable def o1479 (P : Params) : Obj := (ob (.type "tuple") (.seq #[(.str n96 766)] 0))
noncomputable def o1623 (P : Params) : Obj := (ob (.type "code") (.fields #[(.str n78 838), (.str n78 839), (.str n237 840), (.int 347 0), (.int 1 0), (.int 0 0), (.int 0 0), (.int 3 0), (.ref 481), (.bool true), (.int 181 0), (.ref 482), .none, .none, .none, (.ref 483), (.int 841 0), (.int 347 0), (.str n237 842)]))
noncomputable def o1260 (P : Params) : Obj := (ob (.type "tuple") (.seq #[] 0))
noncomputable def o1212 (P : Params) : Obj := (ob .none (.fields #[]))
noncomputable def o1332 (P : Params) : Obj := (ob (.type "tuple") (.seq #[(.int 0 595)] 0))
noncomputable def o1277 (P : Params) : Obj := (ob (.type "tuple") (.seq #[(.str n172 520)] 0))
noncomputable def o1216 (P : Params) : Obj := (ob (.type "code") (.fields #[(.str n191 429), (.str n191 430), (.str n237 431), (.int 113 0), (.int 1 0), (.int 0 0), (.int 0 0), (.int 3 0), (.ref 168), (.bool true), (.int 181 0), (.ref 169), .none, (.ref 170), (.ref 171), (.ref 172), (.int 433 0), (.int 113 0), (.str n237 434)]))
noncomputable def o1062 (P : Params) : Obj := (ob (.type "tuple") (.seq #[] 0))
noncomputable def o1376 (P : Params) : Obj := fO (o := hC 47 5) rfl (.type "function") n127 n275 3 [] (.ref 322) .none .none (.str n164 564) none (.ref 328) .none 0
noncomputable def o1449 (P : Params) : Obj := (ob (.type "tuple") (.seq #[] 0))
noncomputable def o1107 (P : Params) : Obj := (ob (.type "tuple") (.seq #[] 0))
noncomputable def o1440 (P : Params) : Obj := (ob (.type "code") (.fields #[(.str n139 714), (.str n272 715), (.str n237 716), (.int 286 0), (.int 3 0), (.int 0 0), (.int 0 0), (.int 3 0), (.ref 388), (.bool true), (.int 181 0), (.ref 389), .none, (.ref 390), (.ref 391), (.ref 392), (.int 720 0), (.int 286 0), (.str n237 721)]))
noncomputable def o1168 (P : Params) : Obj := fO (o := hB 14) rfl .none n147 n147 0 [] .none .none .none .none none .none .none 0
noncomputable def o1343 (P : Params) : Obj := (ob (.type "tuple") (.seq #[(.str n96 609), (.str n118 610)] 0))
noncomputable def o1237 (P : Params) : Obj := (ob (.type "code") (.fields #[(.str n174 456), (.str n174 457), (.str n237 458), (.int 130 0), (.int 2 0), (.int 0 0), (.int 0 0), (.int 3 0), (.ref 189), (.bool true), (.int 181 0), (.ref 190), .none, (.ref 191), (.ref 192), (.ref 193), (.int 462 0), (.int 130 0), (.str n237 463)]))
noncomputable def o1312 (P : Params) : Obj := (ob .none (.fields #[]))
noncomputable def o1511 (P : Params) : Obj := fO (o := hC 47 0) rfl .none n95 n265 0 [] .none .none .none .none none .none .none 0
noncomputable def o1364 (P : Params) : Obj := (ob (.type "tuple") (.seq #[(.str n96 632), (.str n125 633)] 0))
noncomputable def o1631 (P : Params) : Obj := fO (o := hB 52) rfl (.type "function") n83 n83 3 [] .none .none .none (.str n99 836) none (.ref 491) .none 0
noncomputable def o1532 (P : Params) : Obj := (ob (.type "tuple") (.seq #[] 0))
noncomputable def o1268 (P : Params) : Obj := (ob .none (.fields #[]))
noncomputable def o1141 (P : Params) : Obj := (ob (.type "tuple") (.seq #[] 0))
noncomputable def o1069 (P : Params) : Obj := (ob (.type "tuple") (.seq #[] 0))
noncomputable def o1385 (P : Params) : Obj := (ob .none (.fields #[]))
noncomputable def o1678 (P : Params) : Obj := fO (o := hB 59) rfl (.type "function") n56 n56 3 [] .none .none .none (.str n99 836) none (.ref 536) .none 0
noncomputable def o1584 (P : Params) : Obj := (ob (.type "code") (.fields #[(.str n71 683), (.str n259 684), (.str n237 685), (.int 270 0), (.int 1 0), (.int 0 0), (.int 0 0), (.int 3 0), (.ref 358), (.bool true), (.int 181 0), (.ref 359), .none, (.ref 360), (.ref 361), (.ref 362), (.int 687 0), (.int 270 0), (.str n237 688)]))
noncomputable def o1370 (P : Params) : Obj := (ob (.type "tuple") (.seq #[] 0))
noncomputable def o1321 (P : Params) : Obj := (ob (.type "code") (.fields #[(.str n110 577), (.str n110 578), (.str n237 579), (.int 209 0), (.int 1 0), (.int 0 0), (.int 0 0), (.int 3 0), (.ref 273), (.bool true), (.int 181 0), (.ref 274), .none, .none, .none, (.ref 275), (.int 580 0), (.int 209 0), (.str n237 581)]))
noncomputable def o1308 (P : Params) : Obj := fO (o := hB 41) rfl .none n49 n49 0 [] .none .none .none .none none .none .none 0
noncomputable def o1637 (P : Params) : Obj := (ob (.type "code") (.fields #[(.str n80 855), (.str n80 856), (.str n237 857), (.int 359 0), (.int 2 0), (.int 0 0), (.int 0 0), (.int 3 0), (.ref 493), (.bool true), (.int 181 0), (.ref 494), .none, (.ref 495), (.ref 496), (.ref 497), (.int 860 0), (.int 359 0), (.str n237 861)]))
noncomputable def o1339 (P : Params) : Obj := fO (o := hC 47 0) rfl (.type "function") n95 n265 3 [] (.ref 285) .none .none (.str n164 564) none (.ref 291) .none 0
noncomputable def o1510 (P : Params) : Obj := (ob (.type "tuple") (.seq #[] 0))
noncomputable def o1239 (P : Params) : Obj := (ob (.type "tuple") (.seq #[] 0))
noncomputable def o1619 (P : Params) : Obj := (ob (.type "builtin_function_or_method") (.fields #[(.builtin "object.__init_subclass__"), (.ref 476)]))
noncomputable def o1434 (P : Params) : Obj := (ob (.type "tuple") (.seq #[(.int 0 713)] 0))
noncomputable def o1050 (P : Params) : Obj := fO (o := hB 0) rfl .none n120 n120 0 [] .none .none .none .none none .none .none 0
noncomputable def o1620 (P : Params) : Obj := (ob (.type "tuple") (.seq #[] 0))
noncomputable def o1506 (P : Params) : Obj := (ob (.type "tuple") (.seq #[(.int 0 595)] 0))
noncomputable def o1512 (P : Params) : Obj := (ob (.type "code") (.fields #[(.str n95 596), (.str n265 597), (.str n237 598), (.int 216 0), (.int 3 0), (.int 0 0), (.int 0 0), (.int 3 0), (.ref 286), (.bool true), (.int 181 0), (.ref 287), .none, (.ref 288), (.ref 289), (.ref 290), (.int 602 0), (.int 216 0), (.str n237 603)]))
noncomputable def o1087 (P : Params) : Obj := (ob (.type "dict") (.dict #[(en P n249 243 (.str n232 194)), (en P n262 245 (.str n219 244)), (en P n250 247 (.int 14 246)), (en P n251 248 (.ref 58))] 4))
noncomputable def o1226 (P : Params) : Obj := (ob .none (.fields #[]))
noncomputable def o1152 (P : Params) : Obj := (ob (.type "tuple") (.seq #[(.str n213 317)] 0))
noncomputable def o1371 (P : Params) : Obj := (ob .none (.fields #[]))
noncomputable def o1131 (P : Params) : Obj := fO (o := hB 9) rfl .none n148 n148 0 [] .none .none .none .none none .none .none 0
noncomputable def o1098 (P : Params) : Obj := (ob .none (.fields #[(.int 1 0), (.int 0 0), (.ref 20), (.int 5 0), (.int 0 0), (.ref 27), (.int 14 0), (.int 0 0), (.ref 56), (.int 16 0), (.int 0 0), (.ref 68), (.int 20 0), (.int 0 0), (.ref 80), (.int 24 0), (.int 0 0), (.ref 88), (.int 31 0), (.int 0 0), (.ref 95), (.int 33 0), (.int 0 0), (.ref 102), (.int 41 0), (.int 0 0), (.ref 109)]))
noncomputable def o1220 (P : Params) : Obj := (ob (.type "tuple") (.seq #[(.str n46 439), (.str n194 440), (.str n27 441)] 0))
noncomputable def o1045 (P : Params) : Obj := (ob .none (.fields #[(.int 1 0), (.int 0 0), (.ref 20), (.int 5 0), (.int 0 0), (.ref 27)]))
noncomputable def o1591 (P : Params) : Obj := (ob (.type "builtin_function_or_method") (.fields #[(.builtin "type.__prepare__"), (.type "type")]))
noncomputable def o1116 (P : Params) : Obj := fO (o := hB 7) rfl .none n224 n224 0 [] .none .none .none .none none .none .none 0
noncomputable def o1609 (P : Params) : Obj := (ob (.type "tuple") (.seq #[] 0))
noncomputable def o1297 (P : Params) : Obj := (ob (.type "tuple") (.seq #[] 0))
noncomputable def o1247 (P : Params) : Obj := (ob .none (.fields #[]))
noncomputable def o1265 (P : Params) : Obj := (ob (.type "code") (.fields #[(.str n179 496), (.str n179 497), (.str n237 498), (.int 159 0), (.int 1 0), (.int 0 0), (.int 0 0), (.int 3 0), (.ref 217), (.bool true), (.int 181 0), (.ref 218), .none, (.ref 219), (.ref 220), (.ref 221), (.int 502 0), (.int 159 0), (.str n237 503)]))
noncomputable def o1458 (P : Params) : Obj := (ob (.type "tuple") (.seq #[(.str n96 742)] 0))
noncomputable def o1563 (P : Params) : Obj := (ob (.type "code") (.fields #[(.str n130 658), (.str n261 659), (.str n237 660), (.int 254 0), (.int 2 0), (.int 0 0), (.int 0 0), (.int 3 0), (.ref 337), (.bool true), (.int 181 0), (.ref 338), .none, (.ref 339), (.ref 340), (.ref 341), (.int 663 0), (.int 254 0), (.str n237 664)]))
noncomputable def o1324 (P : Params) : Obj := (ob .none (.fields #[(.int 1 0), (.int 0 0), (.ref 20), (.int 5 0), (.int 0 0), (.ref 27), (.int 14 0), (.int 0 0), (.ref 56), (.int 16 0), (.int 0 0), (.ref 68), (.int 20 0), (.int 0 0), (.ref 80), (.int 24 0), (.int 0 0), (.ref 88), (.int 31 0), (.int 0 0), (.ref 95), (.int 33 0), (.int 0 0), (.ref 102), (.int 41 0), (.int 0 0), (.ref 109), (.int 43 0), (.int 0 0), (.ref 116), (.int 45 0), (.int 0 0), (.ref 123), (.int 50 0), (.int 0 0), (.ref 130), (.int 68 0), (.int 0 0), (.ref 138), (.int 81 0), (.int 0 0), (.ref 145), (.int 89 0), (.int 0 0), (.ref 152), (.int 96 0), (.int 0 0), (.ref 159), (.int 106 0), (.int 0 0), (.ref 166), (.int 113 0), (.int 0 0), (.ref 173), (.int 117 0), (.int 0 0), (.ref 180), (.int 128 0), (.int 0 0), (.ref 187), (.int 130 0), (.int 0 0), (.ref 194), (.int 135 0), (.int 0 0), (.ref 201), (.int 143 0), (.int 0 0), (.ref 208), (.int 149 0), (.int 0 0), (.ref 215), (.int 159 0), (.int 0 0), (.ref 222), (.int 164 0), (.int 0 0), (.ref 229), (.int 170 0), (.int 0 0), (.ref 236), (.int 180 0), (.int 0 0), (.ref 243), (.int 183 0), (.int 0 0), (.ref 250), (.int 188 0), (.int 0 0), (.ref 257), (.int 192 0), (.int 0 0), (.ref 264), (.int 207 0), (.int 0 0), (.ref 271), (.int 209 0), (.int 0 0), (.ref 276), (.int 214 0), (.int 0 0), (.ref 283)]))
noncomputable def o1125 (P : Params) : Obj := (ob (.type "code") (.fields #[(.str n223 281), (.str n223 282), (.str n237 283), (.int 24 0), (.int 2 0), (.int 0 0), (.int 0 0), (.int 3 0), (.ref 83), (.bool true), (.int 181 0), (.ref 84), .none, (.ref 85), (.ref 86), (.ref 87), (.int 286 0), (.int 24 0), (.str n237 287)]))
noncomputable def o1646 (P : Params) : Obj := (ob (.type "tuple") (.seq #[] 0))
noncomputable def o1505 (P : Params) : Obj := (.mk (.type "frame") none .plain #[(some (.ref 283)), (some (.ref 3)), (some (.ref 280)), none, (some (.str n164 564)), none, (some (.ref 0))])
noncomputable def o1480 (P : Params) : Obj := (ob (.type "tuple") (.seq #[] 0))
noncomputable def o1256 (P : Params) : Obj := (ob (.type "tuple") (.seq #[] 0))
noncomputable def o1549 (P : Params) : Obj := (ob (.type "code") (.fields #[(.str n127 638), (.str n275 639), (.str n237 640), (.int 242 0), (.int 3 0), (.int 0 0), (.int 0 0), (.int 3 0), (.ref 323), (.bool true), (.int 181 0), (.ref 324), .none, (.ref 325), (.ref 326), (.ref 327), (.int 645 0), (.int 242 0), (.str n237 646)]))
noncomputable def o1533 (P : Params) : Obj := fO (o := hC 47 3) rfl .none n121 n255 0 [] .none .none .none .none none .none .none 0
noncomputable def o1043 (P : Params) : Obj := (ob .none (.dict #[(en P n277 232 (.int 47 0)), (en P n278 233 (.int 1 0))] 2))
noncomputable def o1416 (P : Params) : Obj := (ob (.type "tuple") (.seq #[] 0))
noncomputable def o1192 (P : Params) : Obj := fO (o := hB 20) rfl (.type "function") n207 n207 3 [] .none .none .none (.str n197 343) none (.ref 152) .none 0
noncomputable def o1146 (P : Params) : Obj := (ob (.type "code") (.fields #[(.str n151 307), (.str n151 308), (.str n237 309), (.int 41 0), (.int 1 0), (.int 0 0), (.int 0 0), (.int 3 0), (.ref 104), (.bool true), (.int 181 0), (.ref 105), .none, (.ref 106), (.ref 107), (.ref 108), (.int 311 0), (.int 41 0), (.str n237 312)]))
noncomputable def o1351 (P : Params) : Obj := (ob (.type "tuple") (.seq #[] 0))
noncomputable def o1058 (P : Params) : Obj := (ob (.type "code") (.fields #[(.str n233 198), (.str n233 199), (.str n237 200), (.int 5 0), (.int 0 0), (.int 0 0), (.int 0 0), (.int 0 0), (.ref 25), (.bool false), (.int 181 0), (.ref 26), .none, .none, .none, .none, (.int 201 0), (.int 5 0), (.str n237 202)]))
noncomputable def o1484 (P : Params) : Obj := (ob (.type "tuple") (.seq #[] 0))
noncomputable def o1254 (P : Params) : Obj := (ob .none (.fields #[]))
noncomputable def o1622 (P : Params) : Obj := fO (o := hB 51) rfl .none n78 n78 0 [] .none .none .none .none none .none .none 0
noncomputable def o1309 (P : Params) : Obj := (ob (.type "code") (.fields #[(.str n49 554), (.str n49 555), (.str n237 556), (.int 192 0), (.int 2 0), (.int 0 0), (.int 0 0), (.int 3 0), (.ref 259), (.bool true), (.int 181 0), (.ref 260), .none, (.ref 261), (.ref 262), (.ref 263), (.int 561 0), (.int 192 0), (.str n237 562)]))
noncomputable def o1099 (P : Params) : Obj := (.mk (.type "type") none (.cls (.mk n233 [(.type "Exception")] [(.ref 47), (.type "Exception"), (.type "BaseException"), (.type "object")] 46 n233 true [] [(.ref 60), (.ref 72)] false none false)) #[(some (.ref 22)), none, (some (.str n233 196)), (some (.str n233 204)), (some (.builtin "Exception.__new__")), (some (.bool true))])
noncomputable def o1210 (P : Params) : Obj := fO (o := hB 22) rfl (.type "function") n190 n190 3 [] .none .none .none (.str n197 343) none (.ref 166) .none 0
noncomputable def o1570 (P : Params) : Obj := (ob (.type "code") (.fields #[(.str n131 666), (.str n269 667), (.str n237 668), (.int 260 0), (.int 2 0), (.int 0 0), (.int 0 0), (.int 3 0), (.ref 344), (.bool true), (.int 181 0), (.ref 345), .none, (.ref 346), (.ref 347), (.ref 348), (.int 671 0), (.int 260 0), (.str n237 672)]))
noncomputable def o1345 (P : Params) : Obj := fO (o := hC 47 1) rfl .none n117 n267 0 [] .none .none .none .none none .none .none 0
noncomputable def o1180 (P : Params) : Obj := (ob .none (.fields #[]))
noncomputable def o1368 (P : Params) : Obj := fO (o := hC 47 4) rfl (.type "function") n124 n266 3 [] .none .none .none (.str n164 564) none (.ref 320) .none 0
noncomputable def o1198 (P : Params) : Obj := (ob .none (.fields #[]))
noncomputable def o1263 (P : Params) : Obj := (ob (.type "tuple") (.seq #[] 0))
noncomputable def o1663 (P : Params) : Obj := (ob (.type "code") (.fields #[(.str n0 883), (.str n0 884), (.str n237 885), (.int 367 0), (.int 0 0), (.int 0 0), (.int 0 0), (.int 3 0), (.ref 517), (.bool true), (.int 181 0), (.ref 518), .none, (.ref 519), (.ref 520), (.ref 521), (.int 890 0), (.int 367 0), (.str n237 891)]))
noncomputable def o1462 (P : Params) : Obj := fO (o := hC 47 17) rfl (.type "function") n142 n270 3 [] .none .none .none (.str n164 564) none (.ref 414) .none 0
noncomputable def o1203 (P : Params) : Obj := fO (o := hB 21) rfl (.type "function") n195 n195 3 [] .none .none .none (.str n197 343) none (.ref 159) .none 0
noncomputable def o1317 (P : Params) : Obj := fO (o := hB 45) rfl (.type "function") n108 n108 3 [] .none .none .none (.str n164 564) none (.ref 271) .none 0
noncomputable def o1112 (P : Params) : Obj := (ob (.type "tuple") (.seq #[] 0))
noncomputable def o1651 (P : Params) : Obj := (ob (.type "tuple") (.seq #[] 0))
noncomputable def o1115 (P : Params) : Obj := (ob (.type "tuple") (.seq #[] 0))
noncomputable def o1241 (P : Params) : Obj := (ob (.type "tuple") (.seq #[(.str n46 468), (.str n172 469), (.str n146 470), (.str n8 471)] 0))
noncomputable def o1224 (P : Params) : Obj := fO (o := hB 24) rfl (.type "function") n169 n169 3 [] .none .none .none (.str n197 343) none (.ref 180) .none 0
noncomputable def o1090 (P : Params) : Obj := (ob (.type "code") (.fields #[(.str n219 238), (.str n219 239), (.str n237 240), (.int 14 0), (.int 0 0), (.int 0 0), (.int 0 0), (.int 0 0), (.ref 54), (.bool false), (.int 181 0), (.ref 55), .none, .none, .none, .none, (.int 241 0), (.int 14 0), (.str n237 242)]))
noncomputable def o1204 (P : Params) : Obj := (ob (.type "tuple") (.seq #[] 0))
noncomputable def o1185 (P : Params) : Obj := fO (o := hB 19) rfl (.type "function") n205 n205 3 [] .none .none .none (.str n197 343) none (.ref 145) .none 0
noncomputable def o1617 (P : Params) : Obj := (ob (.type "getset_descriptor") (.fields #[(.str n253 831), (.ref 476), (.builtin "ExceptionGroup.__weakref__"), .none]))
noncomputable def o1451 (P : Params) : Obj := (ob (.type "tuple") (.seq #[(.str n96 734), (.str n8 735)] 0))
noncomputable def o1269 (P : Params) : Obj := (ob (.type "tuple") (.seq #[(.str n46 508), (.str n172 509), (.str n146 510)] 0))
noncomputable def o1466 (P : Params) : Obj := (ob (.type "tuple") (.seq #[] 0))
noncomputable def o1167 (P : Params) : Obj := (ob (.type "tuple") (.seq #[] 0))
noncomputable def o1628 (P : Params) : Obj := (ob (.type "tuple") (.seq #[] 0))
noncomputable def o1108 (P : Params) : Obj := (ob (.type "dict") (.dict #[(en P n249 259 (.str n232 194)), (en P n250 263 (.int 16 262)), (en P n251 264 (.ref 70)), (en P n240 265 .none)] 2))
noncomputable def o1175 (P : Params) : Obj := (ob (.type "tuple") (.seq #[] 0))
noncomputable def o1557 (P : Params) : Obj := fO (o := hC 47 6) rfl (.type "function") n128 n258 3 [] .none .none .none (.str n164 564) none (.ref 335) .none 0
noncomputable def o1653 (P : Params) : Obj := (ob (.type "tuple") (.seq #[(.str n40 878), (.str n44 879)] 0))
noncomputable def o1078 (P : Params) : Obj := (.mk (.type "type") none (.cls (.mk n233 [(.type "Exception")] [(.ref 47), (.type "Exception"), (.type "BaseException"), (.type "object")] 46 n233 true [] [] false none false)) #[(some (.ref 22)), none, (some (.str n233 196)), (some (.str n233 204)), (some (.builtin "Exception.__new__")), (some (.bool true))])
noncomputable def o1475 (P : Params) : Obj := (ob (.type "code") (.fields #[(.str n149 755), (.str n254 756), (.str n237 757), (.int 313 0), (.int 1 0), (.int 0 0), (.int 0 0), (.int 3 0), (.ref 423), (.bool true), (.int 181 0), (.ref 424), .none, (.ref 425), (.ref 426), (.ref 427), (.int 760 0), (.int 313 0), (.str n237 761)]))
noncomputable def o1502 (P : Params) : Obj := (ob (.type "tuple") (.seq #[] 0))
noncomputable def o1223 (P : Params) : Obj := (ob (.type "code") (.fields #[(.str n169 436), (.str n169 437), (.str n237 438), (.int 117 0), (.int 2 0), (.int 0 0), (.int 0 0), (.int 3 0), (.ref 175), (.bool true), (.int 181 0), (.ref 176), .none, (.ref 177), (.ref 178), (.ref 179), (.int 442 0), (.int 117 0), (.str n237 443)]))
noncomputable def o1574 (P : Params) : Obj := (ob (.type "tuple") (.seq #[(.str n96 677), (.str n129 678), (.str n71 679)] 0))
noncomputable def o1059 (P : Params) : Obj := (.mk (.type "frame") none .plain #[(some (.ref 27)), (some (.ref 3)), (some (.ref 24)), none, (some (.str n232 194)), none, (some (.ref 0))])
noncomputable def o1350 (P : Params) : Obj := (ob (.type "tuple") (.seq #[(.str n96 617)] 0))
noncomputable def o1645 (P : Params) : Obj := (ob .none (.fields #[(.int 1 0), (.int 0 0), (.ref 20), (.int 5 0), (.int 0 0), (.ref 27), (.int 14 0), (.int 0 0), (.ref 56), (.int 16 0), (.int 0 0), (.ref 68), (.int 20 0), (.int 0 0), (.ref 80), (.int 24 0), (.int 0 0), (.ref 88), (.int 31 0), (.int 0 0), (.ref 95), (.int 33 0), (.int 0 0), (.ref 102), (.int 41 0), (.int 0 0), (.ref 109), (.int 43 0), (.int 0 0), (.ref 116), (.int 45 0), (.int 0 0), (.ref 123), (.int 50 0), (.int 0 0), (.ref 130), (.int 68 0), (.int 0 0), (.ref 138), (.int 81 0), (.int 0 0), (.ref 145), (.int 89 0), (.int 0 0), (.ref 152), (.int 96 0), (.int 0 0), (.ref 159), (.int 106 0), (.int 0 0), (.ref 166), (.int 113 0), (.int 0 0), (.ref 173), (.int 117 0), (.int 0 0), (.ref 180), (.int 128 0), (.int 0 0), (.ref 187), (.int 130 0), (.int 0 0), (.ref 194), (.int 135 0), (.int 0 0), (.ref 201), (.int 143 0), (.int 0 0), (.ref 208), (.int 149 0), (.int 0 0), (.ref 215), (.int 159 0), (.int 0 0), (.ref 222), (.int 164 0), (.int 0 0), (.ref 229), (.int 170 0), (.int 0 0), (.ref 236), (.int 180 0), (.int 0 0), (.ref 243), (.int 183 0), (.int 0 0), (.ref 250), (.int 188 0), (.int 0 0), (.ref 257), (.int 192 0), (.int 0 0), (.ref 264), (.int 207 0), (.int 0 0), (.ref 271), (.int 209 0), (.int 0 0), (.ref 276), (.int 214 0), (.int 0 0), (.ref 283), (.int 336 0), (.int 0 0), (.ref 456), (.int 347 0), (.int 0 0), (.ref 484), (.int 350 0), (.int 0 0), (.ref 491), (.int 359 0), (.int 0 0), (.ref 498), (.int 361 0), (.int 0 0), (.ref 503), (.int 363 0), (.int 0 0), (.ref 508), (.int 365 0), (.int 0 0), (.ref 515), (.int 367 0), (.int 0 0), (.ref 522), (.int 372 0), (.int 0 0), (.ref 529), (.int 380 0), (.int 0 0), (.ref 536), (.int 386 0), (.int 0 0), (.ref 541)]))
noncomputable def o1556 (P : Params) : Obj := (ob (.type "code") (.fields #[(.str n128 648), (.str n258 649), (.str n237 650), (.int 246 0), (.int 2 0), (.int 0 0), (.int 0 0), (.int 3 0), (.ref 330), (.bool true), (.int 181 0), (.ref 331), .none, (.ref 332), (.ref 333), (.ref 334), (.int 655 0), (.int 246 0), (.str n237 656)]))
noncomputable def o1523 (P : Params) : Obj := (ob .none (.fields #[]))
noncomputable def o1070 (P : Params) : Obj := (ob .none (.fields #[]))
noncomputable def o1088 (P : Params) : Obj := (ob (.type "tuple") (.seq #[] 0))
noncomputable def o1640 (P : Params) : Obj := (ob .none (.fields #[]))
noncomputable def o1380 (P : Params) : Obj := (ob (.type "tuple") (.seq #[] 0))
noncomputable def o1453 (P : Params) : Obj := fO (o := hC 47 16) rfl .none n141 n279 0 [] .none .none .none .none none .none .none 0
noncomputable def o1415 (P : Params) : Obj := (ob (.type "tuple") (.seq #[(.str n96 694), (.str n118 695)] 0))
noncomputable def o1404 (P : Params) : Obj := fO (o := hC 47 9) rfl (.type "function") n133 n239 3 [] .none .none .none (.str n164 564) none (.ref 356) .none 0
noncomputable def o1191 (P : Params) : Obj := (ob (.type "code") (.fields #[(.str n207 399), (.str n207 400), (.str n237 401), (.int 89 0), (.int 2 0), (.int 0 0), (.int 0 0), (.int 3 0), (.ref 147), (.bool true), (.int 181 0), (.ref 148), .none, (.ref 149), (.ref 150), (.ref 151), (.int 406 0), (.int 89 0), (.str n237 407)]))
noncomputable def o1669 (P : Params) : Obj := fO (o := hB 58) rfl .none n36 n36 0 [] .none .none .none .none none .none .none 0
noncomputable def o1487 (P : Params) : Obj := (ob (.type "tuple") (.seq #[] 0))
noncomputable def o1407 (P : Params) : Obj := (ob (.type "tuple") (.seq #[(.str n96 686)] 0))
noncomputable def o1106 (P : Params) : Obj := (.mk (.type "frame") none .plain #[(some (.ref 68)), (some (.ref 3)), (some (.ref 65)), none, (some (.str n232 194)), none, (some (.ref 0))])
noncomputable def o1626 (P : Params) : Obj := (ob .none (.fields #[]))
noncomputable def o1602 (P : Params) : Obj := (ob (.type "tuple") (.seq #[] 0))
noncomputable def o1624 (P : Params) : Obj := fO (o := hB 51) rfl (.type "function") n78 n78 3 [] .none .none .none (.str n99 836) none (.ref 484) .none 0
noncomputable def o1303 (P : Params) : Obj := fO (o := hB 40) rfl (.type "function") n158 n158 3 [] .none .none .none (.str n167 545) none (.ref 257) .none 0
noncomputable def o1366 (P : Params) : Obj := fO (o := hC 47 4) rfl .none n124 n266 0 [] .none .none .none .none none .none .none 0
noncomputable def o1504 (P : Params) : Obj := (ob (.type "code") (.fields #[(.str n90 585), (.str n90 586), (.str n237 587), (.int 214 0), (.int 0 0), (.int 0 0), (.int 0 0), (.int 0 0), (.ref 281), (.bool false), (.int 181 0), (.ref 282), .none, .none, .none, .none, (.int 588 0), (.int 214 0), (.str n237 589)]))
noncomputable def o1503 (P : Params) : Obj := (ob .none (.fields #[(.int 216 0), (.int 4 0), (.ref 291), (.int 222 0), (.int 4 0), (.ref 299), (.int 227 0), (.int 4 0), (.ref 306), (.int 230 0), (.int 4 0), (.ref 313), (.int 235 0), (.int 4 0), (.ref 320), (.int 242 0), (.int 4 0), (.ref 328), (.int 246 0), (.int 4 0), (.ref 335), (.int 254 0), (.int 4 0), (.ref 342), (.int 260 0), (.int 4 0), (.ref 349), (.int 264 0), (.int 4 0), (.ref 356), (.int 270 0), (.int 4 0), (.ref 363)]))
noncomputable def o1509 (P : Params) : Obj := (ob (.type "tuple") (.seq #[(.str n96 599), (.str n40 600), (.str n54 601)] 0))
noncomputable def o1258 (P : Params) : Obj := (ob (.type "code") (.fields #[(.str n173 485), (.str n173 486), (.str n237 487), (.int 149 0), (.int 2 0), (.int 0 0), (.int 0 0), (.int 3 0), (.ref 210), (.bool true), (.int 181 0), (.ref 211), .none, (.ref 212), (.ref 213), (.ref 214), (.int 493 0), (.int 149 0), (.str n237 494)]))
noncomputable def o1331 (P : Params) : Obj := (.mk (.type "frame") none .plain #[(some (.ref 283)), (some (.ref 3)), (some (.ref 280)), none, (some (.str n164 564)), none, (some (.ref 0))])
noncomputable def o1110 (P : Params) : Obj := (ob (.type "super") (.fields #[(.ref 72), (.ref 72), (.ref 72)]))
noncomputable def o1236 (P : Params) : Obj := fO (o := hB 28) rfl .none n174 n174 0 [] .none .none .none .none none .none .none 0
noncomputable def o1629 (P : Params) : Obj := fO (o := hB 52) rfl .none n83 n83 0 [] .none .none .none .none none .none .none 0
noncomputable def o1068 (P : Params) : Obj := fO (o := hC 2 0) rfl (.type "function") n95 n271 3 [] (.ref 30) .none .none (.str n232 194) none (.ref 36) .none 0
noncomputable def o1201 (P : Params) : Obj := fO (o := hB 21) rfl .none n195 n195 0 [] .none .none .none .none none .none .none 0
noncomputable def o1109 (P : Params) : Obj := (.mk (.type "type") none (.cls (.mk n58 [(.ref 47)] [(.ref 72), (.ref 47), (.type "Exception"), (.type "BaseException"), (.type "object")] 71 n58 true [] [] false none false)) #[(some (.ref 63)), none, (some (.str n58 252)), (some (.str n58 260)), (some (.builtin "Exception.__new__")), (some (.bool true))])
noncomputable def o1296 (P : Params) : Obj := fO (o := hB 38) rfl (.type "function") n159 n159 3 [] .none .none .none (.str n185 524) none (.ref 250) .none 0
noncomputable def o1568 (P : Params) : Obj := (ob (.type "tuple") (.seq #[] 0))
noncomputable def o1400 (P : Params) : Obj := (ob (.type "tuple") (.seq #[(.str n96 677), (.str n129 678), (.str n71 679)] 0))
noncomputable def o1362 (P : Params) : Obj := (ob (.type "tuple") (.seq #[] 0))
noncomputable def o1435 (P : Params) : Obj := (ob (.type "tuple") (.seq #[] 0))
noncomputable def o1654 (P : Params) : Obj := (ob (.type "tuple") (.seq #[] 0))
noncomputable def o1349 (P : Params) : Obj := (ob .none (.fields #[]))
noncomputable def o1095 (P : Params) : Obj := (ob (.type "super") (.fields #[(.ref 60), (.ref 60), (.ref 60)]))
noncomputable def o1333 (P : Params) : Obj := (ob (.type "tuple") (.seq #[] 0))
noncomputable def o1494 (P : Params) : Obj := (ob (.type "getset_descriptor") (.fields #[(.str n252 783), (.ref 446), (.builtin "function.__dict__"), (.builtin "function.__dict__#set")]))
noncomputable def o1660 (P : Params) : Obj := (ob (.type "tuple") (.seq #[(.str n1 886), (.str n2 887), (.str n4 888), (.str n7 889)] 0))
noncomputable def o1397 (P : Params) : Obj := fO (o := hC 47 8) rfl (.type "function") n131 n269 3 [] .none .none .none (.str n164 564) none (.ref 349) .none 0
noncomputable def o1593 (P : Params) : Obj := (ob (.type "tuple") (.seq #[] 0))
noncomputable def o1522 (P : Params) : Obj := (ob (.type "tuple") (.seq #[] 0))
noncomputable def o1463 (P : Params) : Obj := (ob (.type "tuple") (.seq #[] 0))
noncomputable def o1138 (P : Params) : Obj := fO (o := hB 10) rfl .none n214 n214 0 [] .none .none .none .none none .none .none 0
noncomputable def o1270 (P : Params) : Obj := (ob (.type "tuple") (.seq #[] 0))
noncomputable def o1311 (P : Params) : Obj := (ob (.type "tuple") (.seq #[] 0))
noncomputable def o1161 (P : Params) : Obj := fO (o := hB 13) rfl .none n215 n215 0 [] .none .none .none .none none .none .none 0
noncomputable def o1562 (P : Params) : Obj := fO (o := hC 47 7) rfl .none n130 n261 0 [] .none .none .none .none none .none .none 0
noncomputable def o1373 (P : Params) : Obj := (ob (.type "tuple") (.seq #[] 0))
noncomputable def o1156 (P : Params) : Obj := fO (o := hB 12) rfl (.type "function") n152 n152 3 [] .none .none .none (.str n235 268) none (.ref 116) .none 0
noncomputable def o1489 (P : Params) : Obj := (ob (.type "code") (.fields #[(.str n154 770), (.str n257 771), (.str n237 772), (.int 327 0), (.int 1 0), (.int 0 0), (.int 0 0), (.int 3 0), (.ref 437), (.bool true), (.int 181 0), (.ref 438), .none, (.ref 439), (.ref 440), (.ref 441), (.int 775 0), (.int 327 0), (.str n237 776)]))
noncomputable def o1550 (P : Params) : Obj := fO (o := hC 47 5) rfl (.type "function") n127 n275 3 [] (.ref 322) .none .none (.str n164 564) none (.ref 328) .none 0
noncomputable def o1127 (P : Params) : Obj := (ob (.type "tuple") (.seq #[] 0))
noncomputable def o1039 (P : Params) : Obj := (ob (.type "code") (.fields #[(.str n280 182), (.str n280 183), (.str n237 184), (.int 1 0), (.int 0 0), (.int 0 0), (.int 0 0), (.int 0 0), (.ref 11), (.bool false), (.int 181 0), (.ref 12), .none, .none, .none, .none, (.int 185 0), (.int 1 0), (.str n237 186)]))
noncomputable def o1266 (P : Params) : Obj := fO (o := hB 32) rfl (.type "function") n179 n179 3 [] .none .none .none (.str n196 445) none (.ref 222) .none 0
noncomputable def o1412 (P : Params) : Obj := (ob (.type "tuple") (.seq #[(.int 0 690)] 0))
noncomputable def o1178 (P : Params) : Obj := fO (o := hB 18) rfl (.type "function") n204 n204 3 [] .none .none .none (.str n197 343) none (.ref 138) .none 0
noncomputable def o1436 (P : Params) : Obj := (ob .none (.fields #[]))
noncomputable def o1211 (P : Params) : Obj := (ob (.type "tuple") (.seq #[] 0))
noncomputable def o1450 (P : Params) : Obj := (ob .none (.fields #[]))
noncomputable def o1075 (P : Params) : Obj := fO (o := hC 2 1) rfl (.type "function") n48 n281 3 [] .none .none .none (.str n232 194) none (.ref 43) .none 0
noncomputable def o1234 (P : Params) : Obj := (ob (.type "tuple") (.seq #[(.str n46 459), (.str n188 460), (.str n125 461)] 0))
noncomputable def o1446 (P : Params) : Obj := fO (o := hC 47 15) rfl .none n140 n276 0 [] .none .none .none .none none .none .none 0
noncomputable def o1354 (P : Params) : Obj := fO (o := hC 47 2) rfl (.type "function") n119 n274 3 [] .none .none .none (.str n164 564) none (.ref 306) .none 0
noncomputable def o1213 (P : Params) : Obj := (ob (.type "tuple") (.seq #[(.str n46 432)] 0))
noncomputable def o1417 (P : Params) : Obj := fO (o := hC 47 11) rfl .none n135 n268 0 [] .none .none .none .none none .none .none 0
noncomputable def o1318 (P : Params) : Obj := (ob (.type "tuple") (.seq #[] 0))
noncomputable def o1097 (P : Params) : Obj := (ob (.type "dict") (.dict #[(en P n98 165 (.str n235 268)), (en P n240 166 .none), (en P n241 167 .none), (en P n242 168 (.builtin "__main__.__loader__#opaque")), (en P n243 169 .none), (en P n244 170 (.ref 6)), (en P n245 171 (.ref 4)), (en P n246 173 (.str n237 172)), (en P n247 174 .none), (en P n120 193 (.ref 21)), (en P n233 235 (.ref 47)), (en P n219 251 (.ref 60)), (en P n58 267 (.ref 72)), (en P n217 271 (.str n236 270)), (en P n224 279 (.ref 81)), (en P n223 288 (.ref 89)), (en P n148 295 (.ref 96)), (en P n214 306 (.ref 103)), (en P n151 313 (.ref 110))] 19))
noncomputable def o1348 (P : Params) : Obj := (ob (.type "tuple") (.seq #[] 0))
noncomputable def o1051 (P : Params) : Obj := (ob (.type "code") (.fields #[(.str n120 187), (.str n120 188), (.str n237 189), (.int 1 0), (.int 1 0), (.int 0 0), (.int 0 0), (.int 3 0), (.ref 15), (.bool true), (.int 181 0), (.ref 16), .none, (.ref 17), (.ref 18), (.ref 19), (.int 191 0), (.int 1 0), (.str n237 192)]))
noncomputable def o1597 (P : Params) : Obj := (ob (.type "tuple") (.seq #[(.int 0 804), (.int 0 805)] 0))
noncomputable def o1498 (P : Params) : Obj := (ob .none (.fields #[(.int 1 0), (.int 0 0), (.ref 20), (.int 5 0), (.int 0 0), (.ref 27), (.int 14 0), (.int 0 0), (.ref 56), (.int 16 0), (.int 0 0), (.ref 68), (.int 20 0), (.int 0 0), (.ref 80), (.int 24 0), (.int 0 0), (.ref 88), (.int 31 0), (.int 0 0), (.ref 95), (.int 33 0), (.int 0 0), (.ref 102), (.int 41 0), (.int 0 0), (.ref 109), (.int 43 0), (.int 0 0), (.ref 116), (.int 45 0), (.int 0 0), (.ref 123), (.int 50 0), (.int 0 0), (.ref 130), (.int 68 0), (.int 0 0), (.ref 138), (.int 81 0), (.int 0 0), (.ref 145), (.int 89 0), (.int 0 0), (.ref 152), (.int 96 0), (.int 0 0), (.ref 159), (.int 106 0), (.int 0 0), (.ref 166), (.int 113 0), (.int 0 0), (.ref 173), (.int 117 0), (.int 0 0), (.ref 180), (.int 128 0), (.int 0 0), (.ref 187), (.int 130 0), (.int 0 0), (.ref 194), (.int 135 0), (.int 0 0), (.ref 201), (.int 143 0), (.int 0 0), (.ref 208), (.int 149 0), (.int 0 0), (.ref 215), (.int 159 0), (.int 0 0), (.ref 222), (.int 164 0), (.int 0 0), (.ref 229), (.int 170 0), (.int 0 0), (.ref 236), (.int 180 0), (.int 0 0), (.ref 243), (.int 183 0), (.int 0 0), (.ref 250), (.int 188 0), (.int 0 0), (.ref 257), (.int 192 0), (.int 0 0), (.ref 264), (.int 207 0), (.int 0 0), (.ref 271), (.int 209 0), (.int 0 0), (.ref 276), (.int 214 0), (.int 0 0), (.ref 283)]))
noncomputable def o1142 (P : Params) : Obj := (ob .none (.fields #[]))
noncomputable def o1222 (P : Params) : Obj := fO (o := hB 24) rfl .none n169 n169 0 [] .none .none .none .none none .none .none 0
noncomputable def o1524 (P : Params) : Obj := (ob (.type "tuple") (.seq #[(.str n96 617)] 0))
noncomputable def o1284 (P : Params) : Obj := (ob .none (.fields #[]))
noncomputable def o1073 (P : Params) : Obj := fO (o := hC 2 1) rfl .none n48 n281 0 [] .none .none .none .none none .none .none 0
noncomputable def o1390 (P : Params) : Obj := fO (o := hC 47 7) rfl (.type "function") n130 n261 3 [] .none .none .none (.str n164 564) none (.ref 342) .none 0
noncomputable def o1133 (P : Params) : Obj := fO (o := hB 9) rfl (.type "function") n148 n148 3 [] .none .none .none (.str n235 268) none (.ref 95) .none 0
noncomputable def o1243 (P : Params) : Obj := fO (o := hB 29) rfl .none n184 n184 0 [] .none .none .none .none none .none .none 0
noncomputable def o1344 (P : Params) : Obj := (ob (.type "tuple") (.seq #[] 0))
noncomputable def o1286 (P : Params) : Obj := (ob (.type "tuple") (.seq #[] 0))
noncomputable def o1573 (P : Params) : Obj := (ob .none (.fields #[]))
noncomputable def o1455 (P : Params) : Obj := fO (o := hC 47 16) rfl (.type "function") n141 n279 3 [] .none .none .none (.str n164 564) none (.ref 407) .none 0
noncomputable def o1135 (P : Params) : Obj := (ob .none (.fields #[]))
noncomputable def o1525 (P : Params) : Obj := (ob (.type "tuple") (.seq #[] 0))
noncomputable def o1638 (P : Params) : Obj := fO (o := hB 53) rfl (.type "function") n80 n80 3 [] .none .none .none (.str n99 836) none (.ref 498) .none 0
noncomputable def o1649 (P : Params) : Obj := (ob (.type "code") (.fields #[(.str n47 869), (.str n47 870), (.str n237 871), (.int 363 0), (.int 1 0), (.int 0 0), (.int 0 0), (.int 3 0), (.ref 505), (.bool true), (.int 181 0), (.ref 506), .none, .none, .none, (.ref 507), (.int 872 0), (.int 363 0), (.str n237 873)]))
noncomputable def o1553 (P : Params) : Obj := (ob (.type "tuple") (.seq #[(.str n96 651), (.str n129 652), (.str n118 653), (.str n71 654)] 0))
noncomputable def o1066 (P : Params) : Obj := fO (o := hC 2 0) rfl .none n95 n271 0 [] .none .none .none .none none .none .none 0
noncomputable def o1500 (P : Params) : Obj := (ob (.type "builtin_function_or_method") (.fields #[(.builtin "type.__prepare__"), (.type "type")]))
noncomputable def o1037 (P : Params) : Obj := (ob (.type "tuple") (.seq #[] 0))
noncomputable def o1518 (P : Params) : Obj := (ob (.type "tuple") (.seq #[] 0))
noncomputable def o1513 (P : Params) : Obj := fO (o := hC 47 0) rfl (.type "function") n95 n265 3 [] (.ref 285) .none .none (.str n164 564) none (.ref 291) .none 0
noncomputable def o1282 (P : Params) : Obj := (ob .none (.fields #[(.int 1 0), (.int 0 0), (.ref 20), (.int 5 0), (.int 0 0), (.ref 27), (.int 14 0), (.int 0 0), (.ref 56), (.int 16 0), (.int 0 0), (.ref 68), (.int 20 0), (.int 0 0), (.ref 80), (.int 24 0), (.int 0 0), (.ref 88), (.int 31 0), (.int 0 0), (.ref 95), (.int 33 0), (.int 0 0), (.ref 102), (.int 41 0), (.int 0 0), (.ref 109), (.int 43 0), (.int 0 0), (.ref 116), (.int 45 0), (.int 0 0), (.ref 123), (.int 50 0), (.int 0 0), (.ref 130), (.int 68 0), (.int 0 0), (.ref 138), (.int 81 0), (.int 0 0), (.ref 145), (.int 89 0), (.int 0 0), (.ref 152), (.int 96 0), (.int 0 0), (.ref 159), (.int 106 0), (.int 0 0), (.ref 166), (.int 113 0), (.int 0 0), (.ref 173), (.int 117 0), (.int 0 0), (.ref 180), (.int 128 0), (.int 0 0), (.ref 187), (.int 130 0), (.int 0 0), (.ref 194), (.int 135 0), (.int 0 0), (.ref 201), (.int 143 0), (.int 0 0), (.ref 208), (.int 149 0), (.int 0 0), (.ref 215), (.int 159 0), (.int 0 0), (.ref 222), (.int 164 0), (.int 0 0), (.ref 229), (.int 170 0), (.int 0 0), (.ref 236), (.int 180 0), (.int 0 0), (.ref 243), (.int 183 0), (.int 0 0), (.ref 250), (.int 188 0), (.int 0 0), (.ref 257), (.int 192 0), (.int 0 0), (.ref 264), (.int 207 0), (.int 0 0), (.ref 271), (.int 209 0), (.int 0 0), (.ref 276)]))
noncomputable def o1162 (P : Params) : Obj := (ob (.type "code") (.fields #[(.str n215 321), (.str n215 322), (.str n237 323), (.int 45 0), (.int 1 0), (.int 0 0), (.int 0 0), (.int 3 0), (.ref 118), (.bool true), (.int 181 0), (.ref 119), .none, (.ref 120), (.ref 121), (.ref 122), (.int 327 0), (.int 45 0), (.str n237 328)]))
noncomputable def o1388 (P : Params) : Obj := fO (o := hC 47 7) rfl .none n130 n261 0 [] .none .none .none .none none .none .none 0
noncomputable def o1076 (P : Params) : Obj := (ob (.type "tuple") (.seq #[(.str n54 226), (.str n122 227)] 0))
noncomputable def o1457 (P : Params) : Obj := (ob .none (.fields #[]))
noncomputable def o1103 (P : Params) : Obj := (ob (.type "tuple") (.seq #[] 0))
noncomputable def o1508 (P : Params) : Obj := (ob .none (.fields #[]))
noncomputable def o1559 (P : Params) : Obj := (ob .none (.fields #[]))
noncomputable def o1369 (P : Params) : Obj := (ob (.type "tuple") (.seq #[(.int 0 637)] 0))
noncomputable def o1403 (P : Params) : Obj := (ob (.type "code") (.fields #[(.str n133 674), (.str n239 675), (.str n237 676), (.int 264 0), (.int 2 0), (.int 0 0), (.int 0 0), (.int 3 0), (.ref 351), (.bool true), (.int 181 0), (.ref 352), .none, (.ref 353), (.ref 354), (.ref 355), (.int 680 0), (.int 264 0), (.str n237 681)]))
noncomputable def o1164 (P : Params) : Obj := (ob (.type "tuple") (.seq #[] 0))
noncomputable def o1672 (P : Params) : Obj := (ob (.type "tuple") (.seq #[] 0))
noncomputable def o1558 (P : Params) : Obj := (ob (.type "tuple") (.seq #[] 0))
noncomputable def o1655 (P : Params) : Obj := fO (o := hB 56) rfl .none n13 n13 0 [] .none .none .none .none none .none .none 0
noncomputable def o1544 (P : Params) : Obj := (ob (.type "tuple") (.seq #[] 0))
noncomputable def o1219 (P : Params) : Obj := (ob .none (.fields #[]))
noncomputable def o1283 (P : Params) : Obj := (ob (.type "tuple") (.seq #[] 0))
noncomputable def o1613 (P : Params) : Obj := (ob (.type "tuple") (.seq #[(.str n54 824), (.str n97 825), (.str n92 826), (.str n93 827)] 0))
noncomputable def o1543 (P : Params) : Obj := (ob (.type "tuple") (.seq #[(.int 0 637)] 0))
noncomputable def o1117 (P : Params) : Obj := (ob (.type "code") (.fields #[(.str n224 272), (.str n224 273), (.str n237 274), (.int 20 0), (.int 2 0), (.int 0 0), (.int 0 0), (.int 3 0), (.ref 75), (.bool true), (.int 181 0), (.ref 76), .none, (.ref 77), (.ref 78), (.ref 79), (.int 277 0), (.int 20 0), (.str n237 278)]))
noncomputable def o1177 (P : Params) : Obj := (ob (.type "code") (.fields #[(.str n204 381), (.str n204 382), (.str n237 383), (.int 68 0), (.int 1 0), (.int 0 0), (.int 0 0), (.int 3 0), (.ref 133), (.bool true), (.int 181 0), (.ref 134), .none, (.ref 135), (.ref 136), (.ref 137), (.int 387 0), (.int 68 0), (.str n237 388)]))
noncomputable def o1481 (P : Params) : Obj := fO (o := hC 47 20) rfl .none n17 n238 0 [] .none .none .none .none none .none .none 0
noncomputable def o1538 (P : Params) : Obj := (ob (.type "tuple") (.seq #[(.str n96 632), (.str n125 633)] 0))
noncomputable def o1495 (P : Params) : Obj := (ob (.type "getset_descriptor") (.fields #[(.str n253 785), (.ref 446), (.builtin "ExceptionGroup.__weakref__"), .none]))
noncomputable def o1221 (P : Params) : Obj := (ob (.type "tuple") (.seq #[] 0))
noncomputable def o1406 (P : Params) : Obj := (ob .none (.fields #[]))
noncomputable def o1056 (P : Params) : Obj := (ob (.type "tuple") (.seq #[] 0))
noncomputable def o1671 (P : Params) : Obj := fO (o := hB 58) rfl (.type "function") n36 n36 3 [] .none .none .none (.str n99 836) none (.ref 529) .none 0
noncomputable def o1681 (P : Params) : Obj := fO (o := hB 60) rfl .none n60 n60 0 [] .none .none .none .none none .none .none 0
noncomputable def o1083 (P : Params) : Obj := (ob .none (.fields #[(.int 1 0), (.int 0 0), (.ref 20), (.int 5 0), (.int 0 0), (.ref 27), (.int 14 0), (.int 0 0), (.ref 56)]))
noncomputable def o1616 (P : Params) : Obj := (ob (.type "getset_descriptor") (.fields #[(.str n252 829), (.ref 476), (.builtin "function.__dict__"), (.builtin "function.__dict__#set")]))
noncomputable def o1122 (P : Params) : Obj := (ob (.type "tuple") (.seq #[(.str n222 284), (.str n227 285)] 0))
noncomputable def o1304 (P : Params) : Obj := (ob (.type "tuple") (.seq #[] 0))
noncomputable def o1085 (P : Params) : Obj := (ob (.type "tuple") (.seq #[(.ref 47)] 0))
noncomputable def o1329 (P : Params) : Obj := (ob .none (.fields #[(.int 216 0), (.int 4 0), (.ref 291), (.int 222 0), (.int 4 0), (.ref 299), (.int 227 0), (.int 4 0), (.ref 306), (.int 230 0), (.int 4 0), (.ref 313), (.int 235 0), (.int 4 0), (.ref 320), (.int 242 0), (.int 4 0), (.ref 328), (.int 246 0), (.int 4 0), (.ref 335), (.int 254 0), (.int 4 0), (.ref 342), (.int 260 0), (.int 4 0), (.ref 349), (.int 264 0), (.int 4 0), (.ref 356), (.int 270 0), (.int 4 0), (.ref 363), (.int 275 0), (.int 4 0), (.ref 371), (.int 278 0), (.int 4 0), (.ref 378), (.int 283 0), (.int 4 0), (.ref 385), (.int 286 0), (.int 4 0), (.ref 393), (.int 289 0), (.int 4 0), (.ref 400), (.int 295 0), (.int 4 0), (.ref 407), (.int 299 0), (.int 4 0), (.ref 414), (.int 304 0), (.int 4 0), (.ref 421), (.int 313 0), (.int 4 0), (.ref 428), (.int 322 0), (.int 4 0), (.ref 435), (.int 327 0), (.int 4 0), (.ref 442)]))
noncomputable def o1398 (P : Params) : Obj := (ob (.type "tuple") (.seq #[] 0))
noncomputable def o1447 (P : Params) : Obj := (ob (.type "code") (.fields #[(.str n140 723), (.str n276 724), (.str n237 725), (.int 289 0), (.int 2 0), (.int 0 0), (.int 0 0), (.int 3 0), (.ref 395), (.bool true), (.int 181 0), (.ref 396), .none, (.ref 397), (.ref 398), (.ref 399), (.int 728 0), (.int 289 0), (.str n237 729)]))
noncomputable def o1635 (P : Params) : Obj := (ob (.type "tuple") (.seq #[] 0))
noncomputable def o1452 (P : Params) : Obj := (ob (.type "tuple") (.seq #[] 0))
noncomputable def o1454 (P : Params) : Obj := (ob (.type "code") (.fields #[(.str n141 731), (.str n279 732), (.str n237 733), (.int 295 0), (.int 2 0), (.int 0 0), (.int 0 0), (.int 3 0), (.ref 402), (.bool true), (.int 181 0), (.ref 403), .none, (.ref 404), (.ref 405), (.ref 406), (.int 736 0), (.int 295 0), (.str n237 737)]))
noncomputable def o1408 (P : Params) : Obj := (ob (.type "tuple") (.seq #[] 0))
noncomputable def o1144 (P : Params) : Obj := (ob (.type "tuple") (.seq #[] 0))
noncomputable def o1519 (P : Params) : Obj := fO (o := hC 47 1) rfl .none n117 n267 0 [] .none .none .none .none none .none .none 0
noncomputable def o1542 (P : Params) : Obj := fO (o := hC 47 4) rfl (.type "function") n124 n266 3 [] .none .none .none (.str n164 564) none (.ref 320) .none 0
noncomputable def o1114 (P : Params) : Obj := (ob (.type "tuple") (.seq #[(.str n225 275), (.str n226 276)] 0))
noncomputable def o1372 (P : Params) : Obj := (ob (.type "tuple") (.seq #[(.str n96 641), (.str n92 642), (.str n118 643), (.str n125 644)] 0))
noncomputable def o1118 (P : Params) : Obj := fO (o := hB 7) rfl (.type "function") n224 n224 3 [] .none .none .none (.str n235 268) none (.ref 80) .none 0
noncomputable def o1326 (P : Params) : Obj := (ob (.type "builtin_function_or_method") (.fields #[(.builtin "type.__prepare__"), (.type "type")]))
noncomputable def o1378 (P : Params) : Obj := (ob .none (.fields #[]))
noncomputable def o1287 (P : Params) : Obj := fO (o := hB 37) rfl .none n161 n161 0 [] .none .none .none .none none .none .none 0
noncomputable def o1040 (P : Params) : Obj := (.mk (.type "frame") none .plain #[(some (.ref 13)), (some (.ref 3)), (some (.ref 3)), none, (some (.str n263 164)), none, (some (.ref 0))])
noncomputable def o1061 (P : Params) : Obj := (ob (.type "tuple") (.seq #[(.ref 29)] 0))
noncomputable def o1207 (P : Params) : Obj := (ob (.type "tuple") (.seq #[] 0))
noncomputable def o1060 (P : Params) : Obj := (ob (.type "tuple") (.seq #[(.int 0 208), (.int 0 209)] 0))
noncomputable def o1273 (P : Params) : Obj := fO (o := hB 33) rfl (.type "function") n177 n177 3 [] .none .none .none (.str n196 445) none (.ref 229) .none 0
noncomputable def o1356 (P : Params) : Obj := (ob .none (.fields #[]))
noncomputable def o1038 (P : Params) : Obj := (ob .none (.fields #[]))
noncomputable def o1357 (P : Params) : Obj := (ob (.type "tuple") (.seq #[(.str n96 624), (.str n122 625)] 0))
noncomputable def o1679 (P : Params) : Obj := (ob (.type "tuple") (.seq #[] 0))
noncomputable def o1471 (P : Params) : Obj := (ob .none (.fields #[]))
noncomputable def o1535 (P : Params) : Obj := fO (o := hC 47 3) rfl (.type "function") n121 n255 3 [] .none .none .none (.str n164 564) none (.ref 313) .none 0
noncomputable def o1424 (P : Params) : Obj := fO (o := hC 47 12) rfl .none n136 n260 0 [] .none .none .none .none none .none .none 0
noncomputable def o1208 (P : Params) : Obj := fO (o := hB 22) rfl .none n190 n190 0 [] .none .none .none .none none .none .none 0
noncomputable def o1136 (P : Params) : Obj := (ob (.type "tuple") (.seq #[(.str n213 299), (.str n227 300), (.str n228 301), (.str n229 302), (.str n230 303)] 0))
noncomputable def o1410 (P : Params) : Obj := (ob (.type "code") (.fields #[(.str n71 683), (.str n259 684), (.str n237 685), (.int 270 0), (.int 1 0), (.int 0 0), (.int 0 0), (.int 3 0), (.ref 358), (.bool true), (.int 181 0), (.ref 359), .none, (.ref 360), (.ref 361), (.ref 362), (.int 687 0), (.int 270 0), (.str n237 688)]))
noncomputable def o1596 (P : Params) : Obj := (.mk (.type "frame") none .plain #[(some (.ref 456)), (some (.ref 3)), (some (.ref 453)), none, (some (.str n156 790)), none, (some (.ref 0))])
noncomputable def o1603 (P : Params) : Obj := fO (o := hC 49 0) rfl .none n95 n273 0 [] .none .none .none .none none .none .none 0
noncomputable def o1367 (P : Params) : Obj := (ob (.type "code") (.fields #[(.str n124 629), (.str n266 630), (.str n237 631), (.int 235 0), (.int 1 0), (.int 0 0), (.int 0 0), (.int 3 0), (.ref 315), (.bool true), (.int 181 0), (.ref 316), .none, (.ref 317), (.ref 318), (.ref 319), (.int 634 0), (.int 235 0), (.str n237 635)]))
noncomputable def o1666 (P : Params) : Obj := (ob .none (.fields #[]))
noncomputable def o1527 (P : Params) : Obj := (ob (.type "code") (.fields #[(.str n119 614), (.str n274 615), (.str n237 616), (.int 227 0), (.int 1 0), (.int 0 0), (.int 0 0), (.int 3 0), (.ref 301), (.bool true), (.int 181 0), (.ref 302), .none, (.ref 303), (.ref 304), (.ref 305), (.int 618 0), (.int 227 0), (.str n237 619)]))
noncomputable def o1496 (P : Params) : Obj := (ob (.type "super") (.fields #[(.ref 446), (.ref 446), (.ref 446)]))
noncomputable def o1432 (P : Params) : Obj := (ob (.type "code") (.fields #[(.str n138 706), (.str n248 707), (.str n237 708), (.int 283 0), (.int 1 0), (.int 0 0), (.int 0 0), (.int 3 0), (.ref 380), (.bool true), (.int 181 0), (.ref 381), .none, (.ref 382), (.ref 383), (.ref 384), (.int 710 0), (.int 283 0), (.str n237 711)]))
noncomputable def o1205 (P : Params) : Obj := (ob .none (.fields #[]))
noncomputable def o1465 (P : Params) : Obj := (ob (.type "tuple") (.seq #[(.str n96 749), (.str n145 750), (.str n146 751)] 0))
noncomputable def o1071 (P : Params) : Obj := (ob (.type "tuple") (.seq #[(.str n96 222)] 0))
noncomputable def o1566 (P : Params) : Obj := (ob .none (.fields #[]))
noncomputable def o1044 (P : Params) : Obj := (ob (.type "dict") (.dict #[(en P n98 165 (.str n232 194)), (en P n240 166 .none), (en P n241 167 .none), (en P n242 168 (.builtin "__main__.__loader__#opaque")), (en P n243 169 .none), (en P n244 170 (.ref 6)), (en P n245 171 (.ref 4)), (en P n246 173 (.str n237 172)), (en P n247 174 .none), (en P n120 193 (.ref 21)), (en P n233 235 (.ref 47))] 11))
noncomputable def o1641 (P : Params) : Obj := fO (o := hB 54) rfl .none n19 n19 0 [] .none .none .none .none none .none .none 0
noncomputable def o1057 (P : Params) : Obj := (ob .none (.fields #[(.int 7 0), (.int 4 0), (.ref 36), (.int 12 0), (.int 4 0), (.ref 43)]))
noncomputable def o1119 (P : Params) : Obj := (ob (.type "tuple") (.seq #[(.int 0 280)] 0))
noncomputable def o1183 (P : Params) : Obj := fO (o := hB 19) rfl .none n205 n205 0 [] .none .none .none .none none .none .none 0
noncomputable def o1137 (P : Params) : Obj := (ob (.type "tuple") (.seq #[] 0))
noncomputable def o1053 (P : Params) : Obj := (ob (.type "tuple") (.seq #[(.type "Exception")] 0))
noncomputable def o1096 (P : Params) : Obj := (ob (.type "builtin_function_or_method") (.fields #[(.builtin "object.__init_subclass__"), (.ref 60)]))
noncomputable def o1259 (P : Params) : Obj := fO (o := hB 31) rfl (.type "function") n173 n173 3 [] .none .none .none (.str n196 445) none (.ref 215) .none 0
noncomputable def o1531 (P : Params) : Obj := (ob (.type "tuple") (.seq #[(.str n96 624), (.str n122 625)] 0))
noncomputable def o1673 (P : Params) : Obj := (ob .none (.fields #[]))
noncomputable def o1242 (P : Params) : Obj := (ob (.type "tuple") (.seq #[] 0))
noncomputable def o1439 (P : Params) : Obj := fO (o := hC 47 14) rfl .none n139 n272 0 [] .none .none .none .none none .none .none 0
noncomputable def o1063 (P : Params) : Obj := (ob .none (.fields #[]))
noncomputable def o1074 (P : Params) : Obj := (ob (.type "code") (.fields #[(.str n48 219), (.str n281 220), (.str n237 221), (.int 12 0), (.int 1 0), (.int 0 0), (.int 0 0), (.int 3 0), (.ref 38), (.bool true), (.int 181 0), (.ref 39), .none, (.ref 40), (.ref 41), (.ref 42), (.int 223 0), (.int 12 0), (.str n237 224)]))
noncomputable def o1160 (P : Params) : Obj := (ob (.type "tuple") (.seq #[] 0))
noncomputable def o1501 (P : Params) : Obj := (ob (.type "dict") (.dict #[(en P n249 590 (.str n164 564)), (en P n262 592 (.str n90 591)), (en P n250 594 (.int 214 593)), (en P n95 604 (.ref 292)), (en P n117 613 (.ref 300)), (en P n119 620 (.ref 307)), (en P n121 628 (.ref 314)), (en P n124 636 (.ref 321)), (en P n127 647 (.ref 329)), (en P n128 657 (.ref 336)), (en P n130 665 (.ref 343)), (en P n131 673 (.ref 350)), (en P n133 682 (.ref 357))] 13))
noncomputable def o1346 (P : Params) : Obj := (ob (.type "code") (.fields #[(.str n117 606), (.str n267 607), (.str n237 608), (.int 222 0), (.int 2 0), (.int 0 0), (.int 0 0), (.int 3 0), (.ref 294), (.bool true), (.int 181 0), (.ref 295), .none, (.ref 296), (.ref 297), (.ref 298), (.int 611 0), (.int 222 0), (.str n237 612)]))
noncomputable def o1300 (P : Params) : Obj := (ob (.type "tuple") (.seq #[] 0))
noncomputable def o1320 (P : Params) : Obj := fO (o := hB 46) rfl .none n110 n110 0 [] .none .none .none .none none .none .none 0
noncomputable def o1409 (P : Params) : Obj := fO (o := hC 47 10) rfl .none n71 n259 0 [] .none .none .none .none none .none .none 0
noncomputable def o1353 (P : Params) : Obj := (ob (.type "code") (.fields #[(.str n119 614), (.str n274 615), (.str n237 616), (.int 227 0), (.int 1 0), (.int 0 0), (.int 0 0), (.int 3 0), (.ref 301), (.bool true), (.int 181 0), (.ref 302), .none, (.ref 303), (.ref 304), (.ref 305), (.int 618 0), (.int 227 0), (.str n237 619)]))
noncomputable def o1337 (P : Params) : Obj := fO (o := hC 47 0) rfl .none n95 n265 0 [] .none .none .none .none none .none .none 0
noncomputable def o1594 (P : Params) : Obj := (ob .none (.fields #[(.int 338 0), (.int 4 0), (.ref 465), (.int 344 0), (.int 4 0), (.ref 472)]))
noncomputable def o1551 (P : Params) : Obj := (ob (.type "tuple") (.seq #[] 0))
noncomputable def o1048 (P : Params) : Obj := (ob (.type "tuple") (.seq #[(.str n231 190)] 0))
noncomputable def o1577 (P : Params) : Obj := (ob (.type "code") (.fields #[(.str n133 674), (.str n239 675), (.str n237 676), (.int 264 0), (.int 2 0), (.int 0 0), (.int 0 0), (.int 3 0), (.ref 351), (.bool true), (.int 181 0), (.ref 352), .none, (.ref 353), (.ref 354), (.ref 355), (.int 680 0), (.int 264 0), (.str n237 681)]))
noncomputable def o1157 (P : Params) : Obj := (ob (.type "tuple") (.seq #[] 0))
noncomputable def o1307 (P : Params) : Obj := (ob (.type "tuple") (.seq #[] 0))
noncomputable def o1147 (P : Params) : Obj := fO (o := hB 11) rfl (.type "function") n151 n151 3 [] .none .none .none (.str n235 268) none (.ref 109) .none 0
noncomputable def o1249 (P : Params) : Obj := (ob (.type "tuple") (.seq #[] 0))
noncomputable def o1140 (P : Params) : Obj := fO (o := hB 10) rfl (.type "function") n214 n214 3 [] .none .none .none (.str n235 268) none (.ref 102) .none 0
noncomputable def o1521 (P : Params) : Obj := fO (o := hC 47 1) rfl (.type "function") n117 n267 3 [] (.ref 293) .none .none (.str n164 564) none (.ref 299) .none 0
noncomputable def o1289 (P : Params) : Obj := fO (o := hB 37) rfl (.type "function") n161 n161 3 [] .none .none .none (.str n185 524) none (.ref 243) .none 0
noncomputable def o1488 (P : Params) : Obj := fO (o := hC 47 21) rfl .none n154 n257 0 [] .none .none .none .none none .none .none 0
noncomputable def o1670 (P : Params) : Obj := (ob (.type "code") (.fields #[(.str n36 893), (.str n36 894), (.str n237 895), (.int 372 0), (.int 3 0), (.int 0 0), (.int 0 0), (.int 3 0), (.ref 524), (.bool true), (.int 181 0), (.ref 525), .none, (.ref 526), (.ref 527), (.ref 528), (.int 905 0), (.int 372 0), (.str n237 906)]))
noncomputable def o1181 (P : Params) : Obj := (ob (.type "tuple") (.seq #[(.str n46 393), (.str n194 394), (.str n146 395)] 0))
noncomputable def o1139 (P : Params) : Obj := (ob (.type "code") (.fields #[(.str n214 296), (.str n214 297), (.str n237 298), (.int 33 0), (.int 3 0), (.int 0 0), (.int 0 0), (.int 3 0), (.ref 97), (.bool true), (.int 181 0), (.ref 98), .none, (.ref 99), (.ref 100), (.ref 101), (.int 304 0), (.int 33 0), (.str n237 305)]))
noncomputable def o1172 (P : Params) : Obj := (ob (.type "tuple") (.seq #[] 0))
noncomputable def o1153 (P : Params) : Obj := (ob (.type "tuple") (.seq #[] 0))
noncomputable def o1365 (P : Params) : Obj := (ob (.type "tuple") (.seq #[] 0))
noncomputable def o1190 (P : Params) : Obj := fO (o := hB 20) rfl .none n207 n207 0 [] .none .none .none .none none .none .none 0
noncomputable def o1233 (P : Params) : Obj := (ob .none (.fields #[]))
noncomputable def o1384 (P : Params) : Obj := (ob (.type "tuple") (.seq #[] 0))
noncomputable def o1472 (P : Params) : Obj := (ob (.type "tuple") (.seq #[(.str n96 758), (.str n146 759)] 0))
noncomputable def o1590 (P : Params) : Obj := (ob (.type "tuple") (.seq #[] 0))
noncomputable def o1079 (P : Params) : Obj := (ob (.type "getset_descriptor") (.fields #[(.str n253 229), (.ref 47), (.builtin "ExceptionGroup.__weakref__"), .none]))
noncomputable def o1548 (P : Params) : Obj := fO (o := hC 47 5) rfl .none n127 n275 0 [] .none .none .none .none none .none .none 0
noncomputable def o1464 (P : Params) : Obj := (ob .none (.fields #[]))
noncomputable def o1275 (P : Params) : Obj := (ob .none (.fields #[]))
noncomputable def o1528 (P : Params) : Obj := fO (o := hC 47 2) rfl (.type "function") n119 n274 3 [] .none .none .none (.str n164 564) none (.ref 306) .none 0
noncomputable def o1250 (P : Params) : Obj := fO (o := hB 30) rfl .none n171 n171 0 [] .none .none .none .none none .none .none 0
noncomputable def o1306 (P : Params) : Obj := (ob (.type "tuple") (.seq #[(.str n46 557), (.str n157 558), (.str n37 559), (.str n160 560)] 0))
noncomputable def o1561 (P : Params) : Obj := (ob (.type "tuple") (.seq #[] 0))
noncomputable def o1477 (P : Params) : Obj := (ob (.type "tuple") (.seq #[] 0))
noncomputable def o1530 (P : Params) : Obj := (ob .none (.fields #[]))
noncomputable def o1358 (P : Params) : Obj := (ob (.type "tuple") (.seq #[] 0))
noncomputable def o1571 (P : Params) : Obj := fO (o := hC 47 8) rfl (.type "function") n131 n269 3 [] .none .none .none (.str n164 564) none (.ref 349) .none 0
noncomputable def o1080 (P : Params) : Obj := (ob (.type "super") (.fields #[(.ref 47), (.ref 47), (.ref 47)]))
noncomputable def o1642 (P : Params) : Obj := (ob (.type "code") (.fields #[(.str n19 863), (.str n19 864), (.str n237 865), (.int 361 0), (.int 1 0), (.int 0 0), (.int 0 0), (.int 3 0), (.ref 500), (.bool true), (.int 181 0), (.ref 501), .none, .none, .none, (.ref 502), (.int 866 0), (.int 361 0), (.str n237 867)]))
noncomputable def o1588 (P : Params) : Obj := (ob (.type "dict") (.dict #[(en P n98 165 (.str n99 836)), (en P n240 166 .none), (en P n241 167 .none), (en P n242 168 (.builtin "__main__.__loader__#opaque")), (en P n243 169 .none), (en P n244 170 (.ref 6)), (en P n245 171 (.ref 4)), (en P n246 173 (.str n237 172)), (en P n247 174 .none), (en P n120 193 (.ref 21)), (en P n233 235 (.ref 47)), (en P n219 251 (.ref 60)), (en P n58 267 (.ref 72)), (en P n217 271 (.str n236 270)), (en P n224 279 (.ref 81)), (en P n223 288 (.ref 89)), (en P n148 295 (.ref 96)), (en P n214 306 (.ref 103)), (en P n151 313 (.ref 110)), (en P n152 320 (.ref 117)), (en P n215 329 (.ref 124)), (en P n147 342 (.ref 131)), (en P n198 346 (.int 7 345)), (en P n193 380 (.ref 132)), (en P n204 389 (.ref 139)), (en P n205 398 (.ref 146)), (en P n207 408 (.ref 153)), (en P n195 420 (.ref 160)), (en P n190 428 (.ref 167)), (en P n191 435 (.ref 174)), (en P n169 444 (.ref 181)), (en P n187 448 (.int 20 447)), (en P n170 455 (.ref 188)), (en P n174 464 (.ref 195)), (en P n184 474 (.ref 202)), (en P n171 484 (.ref 209)), (en P n173 495 (.ref 216)), (en P n179 504 (.ref 223)), (en P n177 513 (.ref 230)), (en P n182 523 (.ref 237)), (en P n166 527 (.str n186 526)), (en P n161 537 (.ref 244)), (en P n159 544 (.ref 251)), (en P n158 553 (.ref 258)), (en P n49 563 (.ref 265)), (en P n113 567 (.int 255 566)), (en P n109 569 (.str n165 568)), (en P n108 576 (.ref 272)), (en P n110 582 (.ref 277)), (en P n90 789 (.ref 446)), (en P n91 835 (.ref 476)), (en P n78 843 (.ref 485)), (en P n83 854 (.ref 492)), (en P n80 862 (.ref 499)), (en P n19 868 (.ref 504))] 55))
noncomputable def o1113 (P : Params) : Obj := (ob .none (.fields #[]))
noncomputable def o1120 (P : Params) : Obj := (ob (.type "tuple") (.seq #[] 0))
noncomputable def o1323 (P : Params) : Obj := (ob (.type "dict") (.dict #[(en P n98 165 (.str n164 564)), (en P n240 166 .none), (en P n241 167 .none), (en P n242 168 (.builtin "__main__.__loader__#opaque")), (en P n243 169 .none), (en P n244 170 (.ref 6)), (en P n245 171 (.ref 4)), (en P n246 173 (.str n237 172)), (en P n247 174 .none), (en P n120 193 (.ref 21)), (en P n233 235 (.ref 47)), (en P n219 251 (.ref 60)), (en P n58 267 (.ref 72)), (en P n217 271 (.str n236 270)), (en P n224 279 (.ref 81)), (en P n223 288 (.ref 89)), (en P n148 295 (.ref 96)), (en P n214 306 (.ref 103)), (en P n151 313 (.ref 110)), (en P n152 320 (.ref 117)), (en P n215 329 (.ref 124)), (en P n147 342 (.ref 131)), (en P n198 346 (.int 7 345)), (en P n193 380 (.ref 132)), (en P n204 389 (.ref 139)), (en P n205 398 (.ref 146)), (en P n207 408 (.ref 153)), (en P n195 420 (.ref 160)), (en P n190 428 (.ref 167)), (en P n191 435 (.ref 174)), (en P n169 444 (.ref 181)), (en P n187 448 (.int 20 447)), (en P n170 455 (.ref 188)), (en P n174 464 (.ref 195)), (en P n184 474 (.ref 202)), (en P n171 484 (.ref 209)), (en P n173 495 (.ref 216)), (en P n179 504 (.ref 223)), (en P n177 513 (.ref 230)), (en P n182 523 (.ref 237)), (en P n166 527 (.str n186 526)), (en P n161 537 (.ref 244)), (en P n159 544 (.ref 251)), (en P n158 553 (.ref 258)), (en P n49 563 (.ref 265)), (en P n113 567 (.int 255 566)), (en P n109 569 (.str n165 568)), (en P n108 576 (.ref 272)), (en P n110 582 (.ref 277)), (en P n90 789 (.ref 446))] 50))
noncomputable def o1419 (P : Params) : Obj := fO (o := hC 47 11) rfl (.type "function") n135 n268 3 [] (.ref 365) .none .none (.str n164 564) none (.ref 371) .none 0
noncomputable def o1608 (P : Params) : Obj := (ob (.type "tuple") (.seq #[(.str n96 820)] 0))
noncomputable def o1049 (P : Params) : Obj := (ob (.type "tuple") (.seq #[] 0))
noncomputable def o1526 (P : Params) : Obj := fO (o := hC 47 2) rfl .none n119 n274 0 [] .none .none .none .none none .none .none 0
noncomputable def o1253 (P : Params) : Obj := (ob (.type "tuple") (.seq #[] 0))
noncomputable def o1134 (P : Params) : Obj := (ob (.type "tuple") (.seq #[] 0))
noncomputable def o1536 (P : Params) : Obj := (ob (.type "tuple") (.seq #[] 0))
noncomputable def o1579 (P : Params) : Obj := (ob (.type "tuple") (.seq #[] 0))
noncomputable def o1199 (P : Params) : Obj := (ob (.type "tuple") (.seq #[(.str n46 412), (.str n194 413), (.str n136 414), (.str n210 415), (.str n212 416), (.str n7 417)] 0))
noncomputable def o1327 (P : Params) : Obj := (ob (.type "dict") (.dict #[(en P n249 590 (.str n164 564)), (en P n262 592 (.str n90 591)), (en P n250 594 (.int 214 593)), (en P n95 604 (.ref 292)), (en P n117 613 (.ref 300)), (en P n119 620 (.ref 307)), (en P n121 628 (.ref 314)), (en P n124 636 (.ref 321)), (en P n127 647 (.ref 329)), (en P n128 657 (.ref 336)), (en P n130 665 (.ref 343)), (en P n131 673 (.ref 350)), (en P n133 682 (.ref 357)), (en P n71 689 (.ref 364)), (en P n135 698 (.ref 372)), (en P n136 705 (.ref 379)), (en P n138 712 (.ref 386)), (en P n139 722 (.ref 394)), (en P n140 730 (.ref 401)), (en P n141 738 (.ref 408)), (en P n142 745 (.ref 415)), (en P n143 754 (.ref 422)), (en P n149 762 (.ref 429)), (en P n17 769 (.ref 436)), (en P n154 777 (.ref 443)), (en P n251 782 (.ref 444))] 26))
noncomputable def o1055 (P : Params) : Obj := (ob (.type "dict") (.dict #[(en P n249 203 (.str n232 194)), (en P n262 205 (.str n233 204)), (en P n250 207 (.int 5 206)), (en P n95 218 (.ref 37)), (en P n48 225 (.ref 44)), (en P n251 228 (.ref 45))] 6))
noncomputable def o1151 (P : Params) : Obj := (ob .none (.fields #[]))
noncomputable def o1340 (P : Params) : Obj := (ob (.type "tuple") (.seq #[(.int 0 605)] 0))
noncomputable def o1595 (P : Params) : Obj := (ob (.type "code") (.fields #[(.str n91 794), (.str n91 795), (.str n237 796), (.int 336 0), (.int 0 0), (.int 0 0), (.int 0 0), (.int 0 0), (.ref 454), (.bool false), (.int 181 0), (.ref 455), .none, .none, .none, .none, (.int 797 0), (.int 336 0), (.str n237 798)]))
noncomputable def o1374 (P : Params) : Obj := fO (o := hC 47 5) rfl .none n127 n275 0 [] .none .none .none .none none .none .none 0
noncomputable def o1170 (P : Params) : Obj := fO (o := hB 14) rfl (.type "function") n147 n147 3 [] .none .none .none (.str n235 268) none (.ref 130) .none 0
noncomputable def o1217 (P : Params) : Obj := fO (o := hB 23) rfl (.type "function") n191 n191 3 [] .none .none .none (.str n197 343) none (.ref 173) .none 0
noncomputable def o1422 (P : Params) : Obj := (ob (.type "tuple") (.seq #[(.str n96 702)] 0))
noncomputable def o1228 (P : Params) : Obj := (ob (.type "tuple") (.seq #[] 0))
noncomputable def o1145 (P : Params) : Obj := fO (o := hB 11) rfl .none n151 n151 0 [] .none .none .none .none none .none .none 0
noncomputable def o1396 (P : Params) : Obj := (ob (.type "code") (.fields #[(.str n131 666), (.str n269 667), (.str n237 668), (.int 260 0), (.int 2 0), (.int 0 0), (.int 0 0), (.int 3 0), (.ref 344), (.bool true), (.int 181 0), (.ref 345), .none, (.ref 346), (.ref 347), (.ref 348), (.int 671 0), (.int 260 0), (.str n237 672)]))
noncomputable def o1520 (P : Params) : Obj := (ob (.type "code") (.fields #[(.str n117 606), (.str n267 607), (.str n237 608), (.int 222 0), (.int 2 0), (.int 0 0), (.int 0 0), (.int 3 0), (.ref 294), (.bool true), (.int 181 0), (.ref 295), .none, (.ref 296), (.ref 297), (.ref 298), (.int 611 0), (.int 222 0), (.str n237 612)]))
noncomputable def o1604 (P : Params) : Obj := (ob (.type "code") (.fields #[(.str n95 806), (.str n273 807), (.str n237 808), (.int 338 0), (.int 5 0), (.int 0 0), (.int 0 0), (.int 3 0), (.ref 460), (.bool true), (.int 181 0), (.ref 461), .none, (.ref 462), (.ref 463), (.ref 464), (.int 814 0), (.int 338 0), (.str n237 815)]))
end Mine
end
noncomputable section
open PySem PySem.W PySem.W.X PyProof.Rows PySem.Calls
set_option Elab.async false
set_option maxRecDepth 100000
set_option maxHeartbeats 0
set_option linter.unusedVariables false
namespace Mine
noncomputable abbrev hN := BT.node
noncomputable abbrev hZ := BT.nil
noncomputable def L0 : Life := ⟨[], [], [], 0, [], [], false, #[], [], 0, false, false, false, 0, [2000, 10, 10], false, 0, true, [], [], 0, false⟩
noncomputable abbrev ST (t : Params → BT) (n k : Nat) (w : World) (os : OsState) : SharedT := ⟨t w.params, n, L0, ⟨[]⟩, ⟨0, 0, 0, 0⟩, k, os⟩
noncomputable def envF : Env := { scope := pF.main.scope, locals := mainNs, globals := mainNs, cells := [], code := .ref 13, frame := some 14 }
noncomputable def stsF (a b : Nat) : List Stmt := (pF.main.body.drop a).take b
noncomputable abbrev cE : Code := .body (behindTheImports pF) envF
noncomputable abbrev po (a b c d : Nat) : Pos := ⟨a, b, c, d⟩
noncomputable abbrev thr (a b : Nat) (p : Pos) : Thread := piecesOf (stsF a b) envF cE p [topFrame ⟨0, 0, 0, 0⟩]
noncomputable def t1192 (P : Params) : BT :=  (hN (boot_o_0 P) (hN (boot_o_1 P) (hN (o1148 P) (hN (boot_o_7 P) (hN (o1046 P) (hN (o1062 P) (hN (o1100 P) (hN (o1166 P) hZ hZ) hZ) (hN (o1132 P) hZ hZ)) (hN (o1099 P) (hN (o1116 P) (hN (o1182 P) hZ hZ) hZ) (hN (o1150 P) hZ hZ))) (hN (o1054 P) (hN (o1070 P) (hN (o1108 P) (hN (o1174 P) hZ hZ) hZ) (hN (o1140 P) hZ hZ)) (hN (o1089 P) (hN (o1124 P) (hN (o1190 P) hZ hZ) hZ) (hN (o1158 P) hZ hZ)))) (hN (o1037 P) (hN (o1050 P) (hN (o1066 P) (hN (o1104 P) (hN (o1170 P) hZ hZ) hZ) (hN (o1136 P) hZ hZ)) (hN (o1085 P) (hN (o1120 P) (hN (o1186 P) hZ hZ) hZ) (hN (o1154 P) hZ hZ))) (hN (o1058 P) (hN (o1074 P) (hN (o1112 P) (hN (o1178 P) hZ hZ) hZ) (hN (o1144 P) hZ hZ)) (hN (o1093 P) (hN (o1128 P) hZ hZ) (hN (o1162 P) hZ hZ))))) (hN (boot_o_5 P) (hN (boot_o_9 P) (hN (o1048 P) (hN (o1064 P) (hN (o1102 P) (hN (o1168 P) hZ hZ) hZ) (hN (o1134 P) hZ hZ)) (hN (o1080 P) (hN (o1118 P) (hN (o1184 P) hZ hZ) hZ) (hN (o1152 P) hZ hZ))) (hN (o1056 P) (hN (o1072 P) (hN (o1110 P) (hN (o1176 P) hZ hZ) hZ) (hN (o1142 P) hZ hZ)) (hN (o1091 P) (hN (o1126 P) (hN (o1192 P) hZ hZ) hZ) (hN (o1160 P) hZ hZ)))) (hN (o1039 P) (hN (o1052 P) (hN (o1068 P) (hN (o1106 P) (hN (o1172 P) hZ hZ) hZ) (hN (o1138 P) hZ hZ)) (hN (o1087 P) (hN (o1122 P) (hN (o1188 P) hZ hZ) hZ) (hN (o1156 P) hZ hZ))) (hN (o1060 P) (hN (o1076 P) (hN (o1114 P) (hN (o1180 P) hZ hZ) hZ) (hN (o1146 P) hZ hZ)) (hN (o1095 P) (hN (o1130 P) hZ hZ) (hN (o1164 P) hZ hZ)))))) (hN (o1043 P) (hN (boot_o_4 P) (hN (boot_o_8 P) (hN (o1047 P) (hN (o1063 P) (hN (o1101 P) (hN (o1167 P) hZ hZ) hZ) (hN (o1133 P) hZ hZ)) (hN (o1079 P) (hN (o1117 P) (hN (o1183 P) hZ hZ) hZ) (hN (o1151 P) hZ hZ))) (hN (o1055 P) (hN (o1071 P) (hN (o1109 P) (hN (o1175 P) hZ hZ) hZ) (hN (o1141 P) hZ hZ)) (hN (o1090 P) (hN (o1125 P) (hN (o1191 P) hZ hZ) hZ) (hN (o1159 P) hZ hZ)))) (hN (o1149 P) (hN (o1051 P) (hN (o1067 P) (hN (o1105 P) (hN (o1171 P) hZ hZ) hZ) (hN (o1137 P) hZ hZ)) (hN (o1086 P) (hN (o1121 P) (hN (o1187 P) hZ hZ) hZ) (hN (o1155 P) hZ hZ))) (hN (o1059 P) (hN (o1075 P) (hN (o1113 P) (hN (o1179 P) hZ hZ) hZ) (hN (o1145 P) hZ hZ)) (hN (o1094 P) (hN (o1129 P) hZ hZ) (hN (o1163 P) hZ hZ))))) (hN (boot_o_6 P) (hN (boot_o_10 P) (hN (o1049 P) (hN (o1065 P) (hN (o1103 P) (hN (o1169 P) hZ hZ) hZ) (hN (o1135 P) hZ hZ)) (hN (o1081 P) (hN (o1119 P) (hN (o1185 P) hZ hZ) hZ) (hN (o1153 P) hZ hZ))) (hN (o1057 P) (hN (o1073 P) (hN (o1111 P) (hN (o1177 P) hZ hZ) hZ) (hN (o1143 P) hZ hZ)) (hN (o1092 P) (hN (o1127 P) hZ hZ) (hN (o1161 P) hZ hZ)))) (hN (o1040 P) (hN (o1053 P) (hN (o1069 P) (hN (o1107 P) (hN (o1173 P) hZ hZ) hZ) (hN (o1139 P) hZ hZ)) (hN (o1088 P) (hN (o1123 P) (hN (o1189 P) hZ hZ) hZ) (hN (o1157 P) hZ hZ))) (hN (o1061 P) (hN (o1077 P) (hN (o1115 P) (hN (o1181 P) hZ hZ) hZ) (hN (o1147 P) hZ hZ)) (hN (o1096 P) (hN (o1131 P) hZ hZ) (hN (o1165 P) hZ hZ)))))))
noncomputable def t1147 (P : Params) : BT :=  (hN (boot_o_0 P) (hN (boot_o_1 P) (hN (o1097 P) (hN (boot_o_7 P) (hN (o1046 P) (hN (o1062 P) (hN (o1100 P) hZ hZ) (hN (o1132 P) hZ hZ)) (hN (o1099 P) (hN (o1116 P) hZ hZ) hZ)) (hN (o1054 P) (hN (o1070 P) (hN (o1108 P) hZ hZ) (hN (o1140 P) hZ hZ)) (hN (o1089 P) (hN (o1124 P) hZ hZ) hZ))) (hN (o1037 P) (hN (o1050 P) (hN (o1066 P) (hN (o1104 P) hZ hZ) (hN (o1136 P) hZ hZ)) (hN (o1085 P) (hN (o1120 P) hZ hZ) hZ)) (hN (o1058 P) (hN (o1074 P) (hN (o1112 P) hZ hZ) (hN (o1144 P) hZ hZ)) (hN (o1093 P) (hN (o1128 P) hZ hZ) hZ)))) (hN (boot_o_5 P) (hN (boot_o_9 P) (hN (o1048 P) (hN (o1064 P) (hN (o1102 P) hZ hZ) (hN (o1134 P) hZ hZ)) (hN (o1080 P) (hN (o1118 P) hZ hZ) hZ)) (hN (o1056 P) (hN (o1072 P) (hN (o1110 P) hZ hZ) (hN (o1142 P) hZ hZ)) (hN (o1091 P) (hN (o1126 P) hZ hZ) hZ))) (hN (o1039 P) (hN (o1052 P) (hN (o1068 P) (hN (o1106 P) hZ hZ) (hN (o1138 P) hZ hZ)) (hN (o1087 P) (hN (o1122 P) hZ hZ) hZ)) (hN (o1060 P) (hN (o1076 P) (hN (o1114 P) hZ hZ) (hN (o1146 P) hZ hZ)) (hN (o1095 P) (hN (o1130 P) hZ hZ) hZ))))) (hN (o1043 P) (hN (boot_o_4 P) (hN (boot_o_8 P) (hN (o1047 P) (hN (o1063 P) (hN (o1101 P) hZ hZ) (hN (o1133 P) hZ hZ)) (hN (o1079 P) (hN (o1117 P) hZ hZ) hZ)) (hN (o1055 P) (hN (o1071 P) (hN (o1109 P) hZ hZ) (hN (o1141 P) hZ hZ)) (hN (o1090 P) (hN (o1125 P) hZ hZ) hZ))) (hN (o1098 P) (hN (o1051 P) (hN (o1067 P) (hN (o1105 P) hZ hZ) (hN (o1137 P) hZ hZ)) (hN (o1086 P) (hN (o1121 P) hZ hZ) hZ)) (hN (o1059 P) (hN (o1075 P) (hN (o1113 P) hZ hZ) (hN (o1145 P) hZ hZ)) (hN (o1094 P) (hN (o1129 P) hZ hZ) hZ)))) (hN (boot_o_6 P) (hN (boot_o_10 P) (hN (o1049 P) (hN (o1065 P) (hN (o1103 P) hZ hZ) (hN (o1135 P) hZ hZ)) (hN (o1081 P) (hN (o1119 P) hZ hZ) hZ)) (hN (o1057 P) (hN (o1073 P) (hN (o1111 P) hZ hZ) (hN (o1143 P) hZ hZ)) (hN (o1092 P) (hN (o1127 P) hZ hZ) hZ))) (hN (o1040 P) (hN (o1053 P) (hN (o1069 P) (hN (o1107 P) hZ hZ) (hN (o1139 P) hZ hZ)) (hN (o1088 P) (hN (o1123 P) hZ hZ) hZ)) (hN (o1061 P) (hN (o1077 P) (hN (o1115 P) hZ hZ) (hN (o1147 P) hZ hZ)) (hN (o1096 P) (hN (o1131 P) hZ hZ) hZ))))))
noncomputable def t1643 (P : Params) : BT :=  (hN (boot_o_0 P) (hN (boot_o_1 P) (hN (o1588 P) (hN (boot_o_7 P) (hN (o1046 P) (hN (o1062 P) (hN (o1100 P) (hN (o1166 P) (hN (o1300 P) hZ hZ) (hN (o1430 P) hZ hZ)) (hN (o1234 P) (hN (o1366 P) hZ hZ) (hN (o1494 P) hZ hZ))) (hN (o1132 P) (hN (o1202 P) (hN (o1334 P) hZ hZ) (hN (o1462 P) hZ hZ)) (hN (o1266 P) (hN (o1398 P) hZ hZ) (hN (o1618 P) hZ hZ)))) (hN (o1099 P) (hN (o1116 P) (hN (o1182 P) (hN (o1316 P) hZ hZ) (hN (o1446 P) hZ hZ)) (hN (o1250 P) (hN (o1382 P) hZ hZ) (hN (o1602 P) hZ hZ))) (hN (o1150 P) (hN (o1218 P) (hN (o1350 P) hZ hZ) (hN (o1478 P) hZ hZ)) (hN (o1284 P) (hN (o1414 P) hZ hZ) (hN (o1634 P) hZ hZ))))) (hN (o1054 P) (hN (o1070 P) (hN (o1108 P) (hN (o1174 P) (hN (o1308 P) hZ hZ) (hN (o1438 P) hZ hZ)) (hN (o1242 P) (hN (o1374 P) hZ hZ) (hN (o1594 P) hZ hZ))) (hN (o1140 P) (hN (o1210 P) (hN (o1342 P) hZ hZ) (hN (o1470 P) hZ hZ)) (hN (o1274 P) (hN (o1406 P) hZ hZ) (hN (o1626 P) hZ hZ)))) (hN (o1089 P) (hN (o1124 P) (hN (o1190 P) (hN (o1326 P) hZ hZ) (hN (o1454 P) hZ hZ)) (hN (o1258 P) (hN (o1390 P) hZ hZ) (hN (o1610 P) hZ hZ))) (hN (o1158 P) (hN (o1226 P) (hN (o1358 P) hZ hZ) (hN (o1486 P) hZ hZ)) (hN (o1292 P) (hN (o1422 P) hZ hZ) (hN (o1642 P) hZ hZ)))))) (hN (o1037 P) (hN (o1050 P) (hN (o1066 P) (hN (o1104 P) (hN (o1170 P) (hN (o1304 P) hZ hZ) (hN (o1434 P) hZ hZ)) (hN (o1238 P) (hN (o1370 P) hZ hZ) (hN (o1590 P) hZ hZ))) (hN (o1136 P) (hN (o1206 P) (hN (o1338 P) hZ hZ) (hN (o1466 P) hZ hZ)) (hN (o1270 P) (hN (o1402 P) hZ hZ) (hN (o1622 P) hZ hZ)))) (hN (o1085 P) (hN (o1120 P) (hN (o1186 P) (hN (o1320 P) hZ hZ) (hN (o1450 P) hZ hZ)) (hN (o1254 P) (hN (o1386 P) hZ hZ) (hN (o1606 P) hZ hZ))) (hN (o1154 P) (hN (o1222 P) (hN (o1354 P) hZ hZ) (hN (o1482 P) hZ hZ)) (hN (o1288 P) (hN (o1418 P) hZ hZ) (hN (o1638 P) hZ hZ))))) (hN (o1058 P) (hN (o1074 P) (hN (o1112 P) (hN (o1178 P) (hN (o1312 P) hZ hZ) (hN (o1442 P) hZ hZ)) (hN (o1246 P) (hN (o1378 P) hZ hZ) (hN (o1598 P) hZ hZ))) (hN (o1144 P) (hN (o1214 P) (hN (o1346 P) hZ hZ) (hN (o1474 P) hZ hZ)) (hN (o1278 P) (hN (o1410 P) hZ hZ) (hN (o1630 P) hZ hZ)))) (hN (o1093 P) (hN (o1128 P) (hN (o1198 P) (hN (o1330 P) hZ hZ) (hN (o1458 P) hZ hZ)) (hN (o1262 P) (hN (o1394 P) hZ hZ) (hN (o1614 P) hZ hZ))) (hN (o1162 P) (hN (o1230 P) (hN (o1362 P) hZ hZ) (hN (o1490 P) hZ hZ)) (hN (o1296 P) (hN (o1426 P) hZ hZ) hZ)))))) (hN (boot_o_5 P) (hN (boot_o_9 P) (hN (o1048 P) (hN (o1064 P) (hN (o1102 P) (hN (o1168 P) (hN (o1302 P) hZ hZ) (hN (o1432 P) hZ hZ)) (hN (o1236 P) (hN (o1368 P) hZ hZ) (hN (o1496 P) hZ hZ))) (hN (o1134 P) (hN (o1204 P) (hN (o1336 P) hZ hZ) (hN (o1464 P) hZ hZ)) (hN (o1268 P) (hN (o1400 P) hZ hZ) (hN (o1620 P) hZ hZ)))) (hN (o1080 P) (hN (o1118 P) (hN (o1184 P) (hN (o1318 P) hZ hZ) (hN (o1448 P) hZ hZ)) (hN (o1252 P) (hN (o1384 P) hZ hZ) (hN (o1604 P) hZ hZ))) (hN (o1152 P) (hN (o1220 P) (hN (o1352 P) hZ hZ) (hN (o1480 P) hZ hZ)) (hN (o1286 P) (hN (o1416 P) hZ hZ) (hN (o1636 P) hZ hZ))))) (hN (o1056 P) (hN (o1072 P) (hN (o1110 P) (hN (o1176 P) (hN (o1310 P) hZ hZ) (hN (o1440 P) hZ hZ)) (hN (o1244 P) (hN (o1376 P) hZ hZ) (hN (o1596 P) hZ hZ))) (hN (o1142 P) (hN (o1212 P) (hN (o1344 P) hZ hZ) (hN (o1472 P) hZ hZ)) (hN (o1276 P) (hN (o1408 P) hZ hZ) (hN (o1628 P) hZ hZ)))) (hN (o1091 P) (hN (o1126 P) (hN (o1192 P) (hN (o1328 P) hZ hZ) (hN (o1456 P) hZ hZ)) (hN (o1260 P) (hN (o1392 P) hZ hZ) (hN (o1612 P) hZ hZ))) (hN (o1160 P) (hN (o1228 P) (hN (o1360 P) hZ hZ) (hN (o1488 P) hZ hZ)) (hN (o1294 P) (hN (o1424 P) hZ hZ) hZ))))) (hN (o1039 P) (hN (o1052 P) (hN (o1068 P) (hN (o1106 P) (hN (o1172 P) (hN (o1306 P) hZ hZ) (hN (o1436 P) hZ hZ)) (hN (o1240 P) (hN (o1372 P) hZ hZ) (hN (o1592 P) hZ hZ))) (hN (o1138 P) (hN (o1208 P) (hN (o1340 P) hZ hZ) (hN (o1468 P) hZ hZ)) (hN (o1272 P) (hN (o1404 P) hZ hZ) (hN (o1624 P) hZ hZ)))) (hN (o1087 P) (hN (o1122 P) (hN (o1188 P) (hN (o1322 P) hZ hZ) (hN (o1452 P) hZ hZ)) (hN (o1256 P) (hN (o1388 P) hZ hZ) (hN (o1608 P) hZ hZ))) (hN (o1156 P) (hN (o1224 P) (hN (o1356 P) hZ hZ) (hN (o1484 P) hZ hZ)) (hN (o1290 P) (hN (o1420 P) hZ hZ) (hN (o1640 P) hZ hZ))))) (hN (o1060 P) (hN (o1076 P) (hN (o1114 P) (hN (o1180 P) (hN (o1314 P) hZ hZ) (hN (o1444 P) hZ hZ)) (hN (o1248 P) (hN (o1380 P) hZ hZ) (hN (o1600 P) hZ hZ))) (hN (o1146 P) (hN (o1216 P) (hN (o1348 P) hZ hZ) (hN (o1476 P) hZ hZ)) (hN (o1280 P) (hN (o1412 P) hZ hZ) (hN (o1632 P) hZ hZ)))) (hN (o1095 P) (hN (o1130 P) (hN (o1200 P) (hN (o1332 P) hZ hZ) (hN (o1460 P) hZ hZ)) (hN (o1264 P) (hN (o1396 P) hZ hZ) (hN (o1616 P) hZ hZ))) (hN (o1164 P) (hN (o1232 P) (hN (o1364 P) hZ hZ) (hN (o1492 P) hZ hZ)) (hN (o1298 P) (hN (o1428 P) hZ hZ) hZ))))))) (hN (o1043 P) (hN (boot_o_4 P) (hN (boot_o_8 P) (hN (o1047 P) (hN (o1063 P) (hN (o1101 P) (hN (o1167 P) (hN (o1301 P) hZ hZ) (hN (o1431 P) hZ hZ)) (hN (o1235 P) (hN (o1367 P) hZ hZ) (hN (o1495 P) hZ hZ))) (hN (o1133 P) (hN (o1203 P) (hN (o1335 P) hZ hZ) (hN (o1463 P) hZ hZ)) (hN (o1267 P) (hN (o1399 P) hZ hZ) (hN (o1619 P) hZ hZ)))) (hN (o1079 P) (hN (o1117 P) (hN (o1183 P) (hN (o1317 P) hZ hZ) (hN (o1447 P) hZ hZ)) (hN (o1251 P) (hN (o1383 P) hZ hZ) (hN (o1603 P) hZ hZ))) (hN (o1151 P) (hN (o1219 P) (hN (o1351 P) hZ hZ) (hN (o1479 P) hZ hZ)) (hN (o1285 P) (hN (o1415 P) hZ hZ) (hN (o1635 P) hZ hZ))))) (hN (o1055 P) (hN (o1071 P) (hN (o1109 P) (hN (o1175 P) (hN (o1309 P) hZ hZ) (hN (o1439 P) hZ hZ)) (hN (o1243 P) (hN (o1375 P) hZ hZ) (hN (o1595 P) hZ hZ))) (hN (o1141 P) (hN (o1211 P) (hN (o1343 P) hZ hZ) (hN (o1471 P) hZ hZ)) (hN (o1275 P) (hN (o1407 P) hZ hZ) (hN (o1627 P) hZ hZ)))) (hN (o1090 P) (hN (o1125 P) (hN (o1191 P) (hN (o1327 P) hZ hZ) (hN (o1455 P) hZ hZ)) (hN (o1259 P) (hN (o1391 P) hZ hZ) (hN (o1611 P) hZ hZ))) (hN (o1159 P) (hN (o1227 P) (hN (o1359 P) hZ hZ) (hN (o1487 P) hZ hZ)) (hN (o1293 P) (hN (o1423 P) hZ hZ) (hN (o1643 P) hZ hZ)))))) (hN (o1589 P) (hN (o1051 P) (hN (o1067 P) (hN (o1105 P) (hN (o1171 P) (hN (o1305 P) hZ hZ) (hN (o1435 P) hZ hZ)) (hN (o1239 P) (hN (o1371 P) hZ hZ) (hN (o1591 P) hZ hZ))) (hN (o1137 P) (hN (o1207 P) (hN (o1339 P) hZ hZ) (hN (o1467 P) hZ hZ)) (hN (o1271 P) (hN (o1403 P) hZ hZ) (hN (o1623 P) hZ hZ)))) (hN (o1086 P) (hN (o1121 P) (hN (o1187 P) (hN (o1321 P) hZ hZ) (hN (o1451 P) hZ hZ)) (hN (o1255 P) (hN (o1387 P) hZ hZ) (hN (o1607 P) hZ hZ))) (hN (o1155 P) (hN (o1223 P) (hN (o1355 P) hZ hZ) (hN (o1483 P) hZ hZ)) (hN (o1289 P) (hN (o1419 P) hZ hZ) (hN (o1639 P) hZ hZ))))) (hN (o1059 P) (hN (o1075 P) (hN (o1113 P) (hN (o1179 P) (hN (o1313 P) hZ hZ) (hN (o1443 P) hZ hZ)) (hN (o1247 P) (hN (o1379 P) hZ hZ) (hN (o1599 P) hZ hZ))) (hN (o1145 P) (hN (o1215 P) (hN (o1347 P) hZ hZ) (hN (o1475 P) hZ hZ)) (hN (o1279 P) (hN (o1411 P) hZ hZ) (hN (o1631 P) hZ hZ)))) (hN (o1094 P) (hN (o1129 P) (hN (o1199 P) (hN (o1331 P) hZ hZ) (hN (o1459 P) hZ hZ)) (hN (o1263 P) (hN (o1395 P) hZ hZ) (hN (o1615 P) hZ hZ))) (hN (o1163 P) (hN (o1231 P) (hN (o1363 P) hZ hZ) (hN (o1491 P) hZ hZ)) (hN (o1297 P) (hN (o1427 P) hZ hZ) hZ)))))) (hN (boot_o_6 P) (hN (boot_o_10 P) (hN (o1049 P) (hN (o1065 P) (hN (o1103 P) (hN (o1169 P) (hN (o1303 P) hZ hZ) (hN (o1433 P) hZ hZ)) (hN (o1237 P) (hN (o1369 P) hZ hZ) (hN (o1497 P) hZ hZ))) (hN (o1135 P) (hN (o1205 P) (hN (o1337 P) hZ hZ) (hN (o1465 P) hZ hZ)) (hN (o1269 P) (hN (o1401 P) hZ hZ) (hN (o1621 P) hZ hZ)))) (hN (o1081 P) (hN (o1119 P) (hN (o1185 P) (hN (o1319 P) hZ hZ) (hN (o1449 P) hZ hZ)) (hN (o1253 P) (hN (o1385 P) hZ hZ) (hN (o1605 P) hZ hZ))) (hN (o1153 P) (hN (o1221 P) (hN (o1353 P) hZ hZ) (hN (o1481 P) hZ hZ)) (hN (o1287 P) (hN (o1417 P) hZ hZ) (hN (o1637 P) hZ hZ))))) (hN (o1057 P) (hN (o1073 P) (hN (o1111 P) (hN (o1177 P) (hN (o1311 P) hZ hZ) (hN (o1441 P) hZ hZ)) (hN (o1245 P) (hN (o1377 P) hZ hZ) (hN (o1597 P) hZ hZ))) (hN (o1143 P) (hN (o1213 P) (hN (o1345 P) hZ hZ) (hN (o1473 P) hZ hZ)) (hN (o1277 P) (hN (o1409 P) hZ hZ) (hN (o1629 P) hZ hZ)))) (hN (o1092 P) (hN (o1127 P) (hN (o1197 P) (hN (o1329 P) hZ hZ) (hN (o1457 P) hZ hZ)) (hN (o1261 P) (hN (o1393 P) hZ hZ) (hN (o1613 P) hZ hZ))) (hN (o1161 P) (hN (o1229 P) (hN (o1361 P) hZ hZ) (hN (o1489 P) hZ hZ)) (hN (o1295 P) (hN (o1425 P) hZ hZ) hZ))))) (hN (o1040 P) (hN (o1053 P) (hN (o1069 P) (hN (o1107 P) (hN (o1173 P) (hN (o1307 P) hZ hZ) (hN (o1437 P) hZ hZ)) (hN (o1241 P) (hN (o1373 P) hZ hZ) (hN (o1593 P) hZ hZ))) (hN (o1139 P) (hN (o1209 P) (hN (o1341 P) hZ hZ) (hN (o1469 P) hZ hZ)) (hN (o1273 P) (hN (o1405 P) hZ hZ) (hN (o1625 P) hZ hZ)))) (hN (o1088 P) (hN (o1123 P) (hN (o1189 P) (hN (o1325 P) hZ hZ) (hN (o1453 P) hZ hZ)) (hN (o1257 P) (hN (o1389 P) hZ hZ) (hN (o1609 P) hZ hZ))) (hN (o1157 P) (hN (o1225 P) (hN (o1357 P) hZ hZ) (hN (o1485 P) hZ hZ)) (hN (o1291 P) (hN (o1421 P) hZ hZ) (hN (o1641 P) hZ hZ))))) (hN (o1061 P) (hN (o1077 P) (hN (o1115 P) (hN (o1181 P) (hN (o1315 P) hZ hZ) (hN (o1445 P) hZ hZ)) (hN (o1249 P) (hN (o1381 P) hZ hZ) (hN (o1601 P) hZ hZ))) (hN (o1147 P) (hN (o1217 P) (hN (o1349 P) hZ hZ) (hN (o1477 P) hZ hZ)) (hN (o1283 P) (hN (o1413 P) hZ hZ) (hN (o1633 P) hZ hZ)))) (hN (o1096 P) (hN (o1131 P) (hN (o1201 P) (hN (o1333 P) hZ hZ) (hN (o1461 P) hZ hZ)) (hN (o1265 P) (hN (o1397 P) hZ hZ) (hN (o1617 P) hZ hZ))) (hN (o1165 P) (hN (o1233 P) (hN (o1365 P) hZ hZ) (hN (o1493 P) hZ hZ)) (hN (o1299 P) (hN (o1429 P) hZ hZ) hZ))))))))
noncomputable def t1280 (P : Params) : BT :=  (hN (boot_o_0 P) (hN (boot_o_1 P) (hN (o1195 P) (hN (boot_o_7 P) (hN (o1046 P) (hN (o1062 P) (hN (o1100 P) (hN (o1166 P) hZ hZ) (hN (o1234 P) hZ hZ)) (hN (o1132 P) (hN (o1202 P) hZ hZ) (hN (o1266 P) hZ hZ))) (hN (o1099 P) (hN (o1116 P) (hN (o1182 P) hZ hZ) (hN (o1250 P) hZ hZ)) (hN (o1150 P) (hN (o1218 P) hZ hZ) hZ))) (hN (o1054 P) (hN (o1070 P) (hN (o1108 P) (hN (o1174 P) hZ hZ) (hN (o1242 P) hZ hZ)) (hN (o1140 P) (hN (o1210 P) hZ hZ) (hN (o1274 P) hZ hZ))) (hN (o1089 P) (hN (o1124 P) (hN (o1190 P) hZ hZ) (hN (o1258 P) hZ hZ)) (hN (o1158 P) (hN (o1226 P) hZ hZ) hZ)))) (hN (o1037 P) (hN (o1050 P) (hN (o1066 P) (hN (o1104 P) (hN (o1170 P) hZ hZ) (hN (o1238 P) hZ hZ)) (hN (o1136 P) (hN (o1206 P) hZ hZ) (hN (o1270 P) hZ hZ))) (hN (o1085 P) (hN (o1120 P) (hN (o1186 P) hZ hZ) (hN (o1254 P) hZ hZ)) (hN (o1154 P) (hN (o1222 P) hZ hZ) hZ))) (hN (o1058 P) (hN (o1074 P) (hN (o1112 P) (hN (o1178 P) hZ hZ) (hN (o1246 P) hZ hZ)) (hN (o1144 P) (hN (o1214 P) hZ hZ) (hN (o1278 P) hZ hZ))) (hN (o1093 P) (hN (o1128 P) (hN (o1198 P) hZ hZ) (hN (o1262 P) hZ hZ)) (hN (o1162 P) (hN (o1230 P) hZ hZ) hZ))))) (hN (boot_o_5 P) (hN (boot_o_9 P) (hN (o1048 P) (hN (o1064 P) (hN (o1102 P) (hN (o1168 P) hZ hZ) (hN (o1236 P) hZ hZ)) (hN (o1134 P) (hN (o1204 P) hZ hZ) (hN (o1268 P) hZ hZ))) (hN (o1080 P) (hN (o1118 P) (hN (o1184 P) hZ hZ) (hN (o1252 P) hZ hZ)) (hN (o1152 P) (hN (o1220 P) hZ hZ) hZ))) (hN (o1056 P) (hN (o1072 P) (hN (o1110 P) (hN (o1176 P) hZ hZ) (hN (o1244 P) hZ hZ)) (hN (o1142 P) (hN (o1212 P) hZ hZ) (hN (o1276 P) hZ hZ))) (hN (o1091 P) (hN (o1126 P) (hN (o1192 P) hZ hZ) (hN (o1260 P) hZ hZ)) (hN (o1160 P) (hN (o1228 P) hZ hZ) hZ)))) (hN (o1039 P) (hN (o1052 P) (hN (o1068 P) (hN (o1106 P) (hN (o1172 P) hZ hZ) (hN (o1240 P) hZ hZ)) (hN (o1138 P) (hN (o1208 P) hZ hZ) (hN (o1272 P) hZ hZ))) (hN (o1087 P) (hN (o1122 P) (hN (o1188 P) hZ hZ) (hN (o1256 P) hZ hZ)) (hN (o1156 P) (hN (o1224 P) hZ hZ) hZ))) (hN (o1060 P) (hN (o1076 P) (hN (o1114 P) (hN (o1180 P) hZ hZ) (hN (o1248 P) hZ hZ)) (hN (o1146 P) (hN (o1216 P) hZ hZ) (hN (o1280 P) hZ hZ))) (hN (o1095 P) (hN (o1130 P) (hN (o1200 P) hZ hZ) (hN (o1264 P) hZ hZ)) (hN (o1164 P) (hN (o1232 P) hZ hZ) hZ)))))) (hN (o1043 P) (hN (boot_o_4 P) (hN (boot_o_8 P) (hN (o1047 P) (hN (o1063 P) (hN (o1101 P) (hN (o1167 P) hZ hZ) (hN (o1235 P) hZ hZ)) (hN (o1133 P) (hN (o1203 P) hZ hZ) (hN (o1267 P) hZ hZ))) (hN (o1079 P) (hN (o1117 P) (hN (o1183 P) hZ hZ) (hN (o1251 P) hZ hZ)) (hN (o1151 P) (hN (o1219 P) hZ hZ) hZ))) (hN (o1055 P) (hN (o1071 P) (hN (o1109 P) (hN (o1175 P) hZ hZ) (hN (o1243 P) hZ hZ)) (hN (o1141 P) (hN (o1211 P) hZ hZ) (hN (o1275 P) hZ hZ))) (hN (o1090 P) (hN (o1125 P) (hN (o1191 P) hZ hZ) (hN (o1259 P) hZ hZ)) (hN (o1159 P) (hN (o1227 P) hZ hZ) hZ)))) (hN (o1196 P) (hN (o1051 P) (hN (o1067 P) (hN (o1105 P) (hN (o1171 P) hZ hZ) (hN (o1239 P) hZ hZ)) (hN (o1137 P) (hN (o1207 P) hZ hZ) (hN (o1271 P) hZ hZ))) (hN (o1086 P) (hN (o1121 P) (hN (o1187 P) hZ hZ) (hN (o1255 P) hZ hZ)) (hN (o1155 P) (hN (o1223 P) hZ hZ) hZ))) (hN (o1059 P) (hN (o1075 P) (hN (o1113 P) (hN (o1179 P) hZ hZ) (hN (o1247 P) hZ hZ)) (hN (o1145 P) (hN (o1215 P) hZ hZ) (hN (o1279 P) hZ hZ))) (hN (o1094 P) (hN (o1129 P) (hN (o1199 P) hZ hZ) (hN (o1263 P) hZ hZ)) (hN (o1163 P) (hN (o1231 P) hZ hZ) hZ))))) (hN (boot_o_6 P) (hN (boot_o_10 P) (hN (o1049 P) (hN (o1065 P) (hN (o1103 P) (hN (o1169 P) hZ hZ) (hN (o1237 P) hZ hZ)) (hN (o1135 P) (hN (o1205 P) hZ hZ) (hN (o1269 P) hZ hZ))) (hN (o1081 P) (hN (o1119 P) (hN (o1185 P) hZ hZ) (hN (o1253 P) hZ hZ)) (hN (o1153 P) (hN (o1221 P) hZ hZ) hZ))) (hN (o1057 P) (hN (o1073 P) (hN (o1111 P) (hN (o1177 P) hZ hZ) (hN (o1245 P) hZ hZ)) (hN (o1143 P) (hN (o1213 P) hZ hZ) (hN (o1277 P) hZ hZ))) (hN (o1092 P) (hN (o1127 P) (hN (o1197 P) hZ hZ) (hN (o1261 P) hZ hZ)) (hN (o1161 P) (hN (o1229 P) hZ hZ) hZ)))) (hN (o1040 P) (hN (o1053 P) (hN (o1069 P) (hN (o1107 P) (hN (o1173 P) hZ hZ) (hN (o1241 P) hZ hZ)) (hN (o1139 P) (hN (o1209 P) hZ hZ) (hN (o1273 P) hZ hZ))) (hN (o1088 P) (hN (o1123 P) (hN (o1189 P) hZ hZ) (hN (o1257 P) hZ hZ)) (hN (o1157 P) (hN (o1225 P) hZ hZ) hZ))) (hN (o1061 P) (hN (o1077 P) (hN (o1115 P) (hN (o1181 P) hZ hZ) (hN (o1249 P) hZ hZ)) (hN (o1147 P) (hN (o1217 P) hZ hZ) hZ)) (hN (o1096 P) (hN (o1131 P) (hN (o1201 P) hZ hZ) (hN (o1265 P) hZ hZ)) (hN (o1165 P) (hN (o1233 P) hZ hZ) hZ)))))))
noncomputable def t1096 (P : Params) : BT :=  (hN (boot_o_0 P) (hN (boot_o_1 P) (hN (o1082 P) (hN (boot_o_7 P) (hN (o1046 P) (hN (o1062 P) hZ hZ) (hN (o1084 P) hZ hZ)) (hN (o1054 P) (hN (o1070 P) hZ hZ) (hN (o1089 P) hZ hZ))) (hN (o1037 P) (hN (o1050 P) (hN (o1066 P) hZ hZ) (hN (o1085 P) hZ hZ)) (hN (o1058 P) (hN (o1074 P) hZ hZ) (hN (o1093 P) hZ hZ)))) (hN (boot_o_5 P) (hN (boot_o_9 P) (hN (o1048 P) (hN (o1064 P) hZ hZ) (hN (o1080 P) hZ hZ)) (hN (o1056 P) (hN (o1072 P) hZ hZ) (hN (o1091 P) hZ hZ))) (hN (o1039 P) (hN (o1052 P) (hN (o1068 P) hZ hZ) (hN (o1087 P) hZ hZ)) (hN (o1060 P) (hN (o1076 P) hZ hZ) (hN (o1095 P) hZ hZ))))) (hN (o1043 P) (hN (boot_o_4 P) (hN (boot_o_8 P) (hN (o1047 P) (hN (o1063 P) hZ hZ) (hN (o1079 P) hZ hZ)) (hN (o1055 P) (hN (o1071 P) hZ hZ) (hN (o1090 P) hZ hZ))) (hN (o1083 P) (hN (o1051 P) (hN (o1067 P) hZ hZ) (hN (o1086 P) hZ hZ)) (hN (o1059 P) (hN (o1075 P) hZ hZ) (hN (o1094 P) hZ hZ)))) (hN (boot_o_6 P) (hN (boot_o_10 P) (hN (o1049 P) (hN (o1065 P) hZ hZ) (hN (o1081 P) hZ hZ)) (hN (o1057 P) (hN (o1073 P) hZ hZ) (hN (o1092 P) hZ hZ))) (hN (o1040 P) (hN (o1053 P) (hN (o1069 P) hZ hZ) (hN (o1088 P) hZ hZ)) (hN (o1061 P) (hN (o1077 P) hZ hZ) (hN (o1096 P) hZ hZ))))))
noncomputable def t1497 (P : Params) : BT :=  (hN (boot_o_0 P) (hN (boot_o_1 P) (hN (o1323 P) (hN (boot_o_7 P) (hN (o1046 P) (hN (o1062 P) (hN (o1100 P) (hN (o1166 P) (hN (o1300 P) hZ hZ) (hN (o1430 P) hZ hZ)) (hN (o1234 P) (hN (o1366 P) hZ hZ) (hN (o1494 P) hZ hZ))) (hN (o1132 P) (hN (o1202 P) (hN (o1334 P) hZ hZ) (hN (o1462 P) hZ hZ)) (hN (o1266 P) (hN (o1398 P) hZ hZ) hZ))) (hN (o1099 P) (hN (o1116 P) (hN (o1182 P) (hN (o1316 P) hZ hZ) (hN (o1446 P) hZ hZ)) (hN (o1250 P) (hN (o1382 P) hZ hZ) hZ)) (hN (o1150 P) (hN (o1218 P) (hN (o1350 P) hZ hZ) (hN (o1478 P) hZ hZ)) (hN (o1284 P) (hN (o1414 P) hZ hZ) hZ)))) (hN (o1054 P) (hN (o1070 P) (hN (o1108 P) (hN (o1174 P) (hN (o1308 P) hZ hZ) (hN (o1438 P) hZ hZ)) (hN (o1242 P) (hN (o1374 P) hZ hZ) hZ)) (hN (o1140 P) (hN (o1210 P) (hN (o1342 P) hZ hZ) (hN (o1470 P) hZ hZ)) (hN (o1274 P) (hN (o1406 P) hZ hZ) hZ))) (hN (o1089 P) (hN (o1124 P) (hN (o1190 P) (hN (o1326 P) hZ hZ) (hN (o1454 P) hZ hZ)) (hN (o1258 P) (hN (o1390 P) hZ hZ) hZ)) (hN (o1158 P) (hN (o1226 P) (hN (o1358 P) hZ hZ) (hN (o1486 P) hZ hZ)) (hN (o1292 P) (hN (o1422 P) hZ hZ) hZ))))) (hN (o1037 P) (hN (o1050 P) (hN (o1066 P) (hN (o1104 P) (hN (o1170 P) (hN (o1304 P) hZ hZ) (hN (o1434 P) hZ hZ)) (hN (o1238 P) (hN (o1370 P) hZ hZ) hZ)) (hN (o1136 P) (hN (o1206 P) (hN (o1338 P) hZ hZ) (hN (o1466 P) hZ hZ)) (hN (o1270 P) (hN (o1402 P) hZ hZ) hZ))) (hN (o1085 P) (hN (o1120 P) (hN (o1186 P) (hN (o1320 P) hZ hZ) (hN (o1450 P) hZ hZ)) (hN (o1254 P) (hN (o1386 P) hZ hZ) hZ)) (hN (o1154 P) (hN (o1222 P) (hN (o1354 P) hZ hZ) (hN (o1482 P) hZ hZ)) (hN (o1288 P) (hN (o1418 P) hZ hZ) hZ)))) (hN (o1058 P) (hN (o1074 P) (hN (o1112 P) (hN (o1178 P) (hN (o1312 P) hZ hZ) (hN (o1442 P) hZ hZ)) (hN (o1246 P) (hN (o1378 P) hZ hZ) hZ)) (hN (o1144 P) (hN (o1214 P) (hN (o1346 P) hZ hZ) (hN (o1474 P) hZ hZ)) (hN (o1278 P) (hN (o1410 P) hZ hZ) hZ))) (hN (o1093 P) (hN (o1128 P) (hN (o1198 P) (hN (o1330 P) hZ hZ) (hN (o1458 P) hZ hZ)) (hN (o1262 P) (hN (o1394 P) hZ hZ) hZ)) (hN (o1162 P) (hN (o1230 P) (hN (o1362 P) hZ hZ) (hN (o1490 P) hZ hZ)) (hN (o1296 P) (hN (o1426 P) hZ hZ) hZ)))))) (hN (boot_o_5 P) (hN (boot_o_9 P) (hN (o1048 P) (hN (o1064 P) (hN (o1102 P) (hN (o1168 P) (hN (o1302 P) hZ hZ) (hN (o1432 P) hZ hZ)) (hN (o1236 P) (hN (o1368 P) hZ hZ) (hN (o1496 P) hZ hZ))) (hN (o1134 P) (hN (o1204 P) (hN (o1336 P) hZ hZ) (hN (o1464 P) hZ hZ)) (hN (o1268 P) (hN (o1400 P) hZ hZ) hZ))) (hN (o1080 P) (hN (o1118 P) (hN (o1184 P) (hN (o1318 P) hZ hZ) (hN (o1448 P) hZ hZ)) (hN (o1252 P) (hN (o1384 P) hZ hZ) hZ)) (hN (o1152 P) (hN (o1220 P) (hN (o1352 P) hZ hZ) (hN (o1480 P) hZ hZ)) (hN (o1286 P) (hN (o1416 P) hZ hZ) hZ)))) (hN (o1056 P) (hN (o1072 P) (hN (o1110 P) (hN (o1176 P) (hN (o1310 P) hZ hZ) (hN (o1440 P) hZ hZ)) (hN (o1244 P) (hN (o1376 P) hZ hZ) hZ)) (hN (o1142 P) (hN (o1212 P) (hN (o1344 P) hZ hZ) (hN (o1472 P) hZ hZ)) (hN (o1276 P) (hN (o1408 P) hZ hZ) hZ))) (hN (o1091 P) (hN (o1126 P) (hN (o1192 P) (hN (o1328 P) hZ hZ) (hN (o1456 P) hZ hZ)) (hN (o1260 P) (hN (o1392 P) hZ hZ) hZ)) (hN (o1160 P) (hN (o1228 P) (hN (o1360 P) hZ hZ) (hN (o1488 P) hZ hZ)) (hN (o1294 P) (hN (o1424 P) hZ hZ) hZ))))) (hN (o1039 P) (hN (o1052 P) (hN (o1068 P) (hN (o1106 P) (hN (o1172 P) (hN (o1306 P) hZ hZ) (hN (o1436 P) hZ hZ)) (hN (o1240 P) (hN (o1372 P) hZ hZ) hZ)) (hN (o1138 P) (hN (o1208 P) (hN (o1340 P) hZ hZ) (hN (o1468 P) hZ hZ)) (hN (o1272 P) (hN (o1404 P) hZ hZ) hZ))) (hN (o1087 P) (hN (o1122 P) (hN (o1188 P) (hN (o1322 P) hZ hZ) (hN (o1452 P) hZ hZ)) (hN (o1256 P) (hN (o1388 P) hZ hZ) hZ)) (hN (o1156 P) (hN (o1224 P) (hN (o1356 P) hZ hZ) (hN (o1484 P) hZ hZ)) (hN (o1290 P) (hN (o1420 P) hZ hZ) hZ)))) (hN (o1060 P) (hN (o1076 P) (hN (o1114 P) (hN (o1180 P) (hN (o1314 P) hZ hZ) (hN (o1444 P) hZ hZ)) (hN (o1248 P) (hN (o1380 P) hZ hZ) hZ)) (hN (o1146 P) (hN (o1216 P) (hN (o1348 P) hZ hZ) (hN (o1476 P) hZ hZ)) (hN (o1280 P) (hN (o1412 P) hZ hZ) hZ))) (hN (o1095 P) (hN (o1130 P) (hN (o1200 P) (hN (o1332 P) hZ hZ) (hN (o1460 P) hZ hZ)) (hN (o1264 P) (hN (o1396 P) hZ hZ) hZ)) (hN (o1164 P) (hN (o1232 P) (hN (o1364 P) hZ hZ) (hN (o1492 P) hZ hZ)) (hN (o1298 P) (hN (o1428 P) hZ hZ) hZ))))))) (hN (o1043 P) (hN (boot_o_4 P) (hN (boot_o_8 P) (hN (o1047 P) (hN (o1063 P) (hN (o1101 P) (hN (o1167 P) (hN (o1301 P) hZ hZ) (hN (o1431 P) hZ hZ)) (hN (o1235 P) (hN (o1367 P) hZ hZ) (hN (o1495 P) hZ hZ))) (hN (o1133 P) (hN (o1203 P) (hN (o1335 P) hZ hZ) (hN (o1463 P) hZ hZ)) (hN (o1267 P) (hN (o1399 P) hZ hZ) hZ))) (hN (o1079 P) (hN (o1117 P) (hN (o1183 P) (hN (o1317 P) hZ hZ) (hN (o1447 P) hZ hZ)) (hN (o1251 P) (hN (o1383 P) hZ hZ) hZ)) (hN (o1151 P) (hN (o1219 P) (hN (o1351 P) hZ hZ) (hN (o1479 P) hZ hZ)) (hN (o1285 P) (hN (o1415 P) hZ hZ) hZ)))) (hN (o1055 P) (hN (o1071 P) (hN (o1109 P) (hN (o1175 P) (hN (o1309 P) hZ hZ) (hN (o1439 P) hZ hZ)) (hN (o1243 P) (hN (o1375 P) hZ hZ) hZ)) (hN (o1141 P) (hN (o1211 P) (hN (o1343 P) hZ hZ) (hN (o1471 P) hZ hZ)) (hN (o1275 P) (hN (o1407 P) hZ hZ) hZ))) (hN (o1090 P) (hN (o1125 P) (hN (o1191 P) (hN (o1327 P) hZ hZ) (hN (o1455 P) hZ hZ)) (hN (o1259 P) (hN (o1391 P) hZ hZ) hZ)) (hN (o1159 P) (hN (o1227 P) (hN (o1359 P) hZ hZ) (hN (o1487 P) hZ hZ)) (hN (o1293 P) (hN (o1423 P) hZ hZ) hZ))))) (hN (o1324 P) (hN (o1051 P) (hN (o1067 P) (hN (o1105 P) (hN (o1171 P) (hN (o1305 P) hZ hZ) (hN (o1435 P) hZ hZ)) (hN (o1239 P) (hN (o1371 P) hZ hZ) hZ)) (hN (o1137 P) (hN (o1207 P) (hN (o1339 P) hZ hZ) (hN (o1467 P) hZ hZ)) (hN (o1271 P) (hN (o1403 P) hZ hZ) hZ))) (hN (o1086 P) (hN (o1121 P) (hN (o1187 P) (hN (o1321 P) hZ hZ) (hN (o1451 P) hZ hZ)) (hN (o1255 P) (hN (o1387 P) hZ hZ) hZ)) (hN (o1155 P) (hN (o1223 P) (hN (o1355 P) hZ hZ) (hN (o1483 P) hZ hZ)) (hN (o1289 P) (hN (o1419 P) hZ hZ) hZ)))) (hN (o1059 P) (hN (o1075 P) (hN (o1113 P) (hN (o1179 P) (hN (o1313 P) hZ hZ) (hN (o1443 P) hZ hZ)) (hN (o1247 P) (hN (o1379 P) hZ hZ) hZ)) (hN (o1145 P) (hN (o1215 P) (hN (o1347 P) hZ hZ) (hN (o1475 P) hZ hZ)) (hN (o1279 P) (hN (o1411 P) hZ hZ) hZ))) (hN (o1094 P) (hN (o1129 P) (hN (o1199 P) (hN (o1331 P) hZ hZ) (hN (o1459 P) hZ hZ)) (hN (o1263 P) (hN (o1395 P) hZ hZ) hZ)) (hN (o1163 P) (hN (o1231 P) (hN (o1363 P) hZ hZ) (hN (o1491 P) hZ hZ)) (hN (o1297 P) (hN (o1427 P) hZ hZ) hZ)))))) (hN (boot_o_6 P) (hN (boot_o_10 P) (hN (o1049 P) (hN (o1065 P) (hN (o1103 P) (hN (o1169 P) (hN (o1303 P) hZ hZ) (hN (o1433 P) hZ hZ)) (hN (o1237 P) (hN (o1369 P) hZ hZ) (hN (o1497 P) hZ hZ))) (hN (o1135 P) (hN (o1205 P) (hN (o1337 P) hZ hZ) (hN (o1465 P) hZ hZ)) (hN (o1269 P) (hN (o1401 P) hZ hZ) hZ))) (hN (o1081 P) (hN (o1119 P) (hN (o1185 P) (hN (o1319 P) hZ hZ) (hN (o1449 P) hZ hZ)) (hN (o1253 P) (hN (o1385 P) hZ hZ) hZ)) (hN (o1153 P) (hN (o1221 P) (hN (o1353 P) hZ hZ) (hN (o1481 P) hZ hZ)) (hN (o1287 P) (hN (o1417 P) hZ hZ) hZ)))) (hN (o1057 P) (hN (o1073 P) (hN (o1111 P) (hN (o1177 P) (hN (o1311 P) hZ hZ) (hN (o1441 P) hZ hZ)) (hN (o1245 P) (hN (o1377 P) hZ hZ) hZ)) (hN (o1143 P) (hN (o1213 P) (hN (o1345 P) hZ hZ) (hN (o1473 P) hZ hZ)) (hN (o1277 P) (hN (o1409 P) hZ hZ) hZ))) (hN (o1092 P) (hN (o1127 P) (hN (o1197 P) (hN (o1329 P) hZ hZ) (hN (o1457 P) hZ hZ)) (hN (o1261 P) (hN (o1393 P) hZ hZ) hZ)) (hN (o1161 P) (hN (o1229 P) (hN (o1361 P) hZ hZ) (hN (o1489 P) hZ hZ)) (hN (o1295 P) (hN (o1425 P) hZ hZ) hZ))))) (hN (o1040 P) (hN (o1053 P) (hN (o1069 P) (hN (o1107 P) (hN (o1173 P) (hN (o1307 P) hZ hZ) (hN (o1437 P) hZ hZ)) (hN (o1241 P) (hN (o1373 P) hZ hZ) hZ)) (hN (o1139 P) (hN (o1209 P) (hN (o1341 P) hZ hZ) (hN (o1469 P) hZ hZ)) (hN (o1273 P) (hN (o1405 P) hZ hZ) hZ))) (hN (o1088 P) (hN (o1123 P) (hN (o1189 P) (hN (o1325 P) hZ hZ) (hN (o1453 P) hZ hZ)) (hN (o1257 P) (hN (o1389 P) hZ hZ) hZ)) (hN (o1157 P) (hN (o1225 P) (hN (o1357 P) hZ hZ) (hN (o1485 P) hZ hZ)) (hN (o1291 P) (hN (o1421 P) hZ hZ) hZ)))) (hN (o1061 P) (hN (o1077 P) (hN (o1115 P) (hN (o1181 P) (hN (o1315 P) hZ hZ) (hN (o1445 P) hZ hZ)) (hN (o1249 P) (hN (o1381 P) hZ hZ) hZ)) (hN (o1147 P) (hN (o1217 P) (hN (o1349 P) hZ hZ) (hN (o1477 P) hZ hZ)) (hN (o1283 P) (hN (o1413 P) hZ hZ) hZ))) (hN (o1096 P) (hN (o1131 P) (hN (o1201 P) (hN (o1333 P) hZ hZ) (hN (o1461 P) hZ hZ)) (hN (o1265 P) (hN (o1397 P) hZ hZ) hZ)) (hN (o1165 P) (hN (o1233 P) (hN (o1365 P) hZ hZ) (hN (o1493 P) hZ hZ)) (hN (o1299 P) (hN (o1429 P) hZ hZ) hZ))))))))
noncomputable def t1081 (P : Params) : BT :=  (hN (boot_o_0 P) (hN (boot_o_1 P) (hN (o1044 P) (hN (boot_o_7 P) (hN (o1046 P) (hN (o1062 P) hZ hZ) (hN (o1078 P) hZ hZ)) (hN (o1054 P) (hN (o1070 P) hZ hZ) hZ)) (hN (o1037 P) (hN (o1050 P) (hN (o1066 P) hZ hZ) hZ) (hN (o1058 P) (hN (o1074 P) hZ hZ) hZ))) (hN (boot_o_5 P) (hN (boot_o_9 P) (hN (o1048 P) (hN (o1064 P) hZ hZ) (hN (o1080 P) hZ hZ)) (hN (o1056 P) (hN (o1072 P) hZ hZ) hZ)) (hN (o1039 P) (hN (o1052 P) (hN (o1068 P) hZ hZ) hZ) (hN (o1060 P) (hN (o1076 P) hZ hZ) hZ)))) (hN (o1043 P) (hN (boot_o_4 P) (hN (boot_o_8 P) (hN (o1047 P) (hN (o1063 P) hZ hZ) (hN (o1079 P) hZ hZ)) (hN (o1055 P) (hN (o1071 P) hZ hZ) hZ)) (hN (o1045 P) (hN (o1051 P) (hN (o1067 P) hZ hZ) hZ) (hN (o1059 P) (hN (o1075 P) hZ hZ) hZ))) (hN (boot_o_6 P) (hN (boot_o_10 P) (hN (o1049 P) (hN (o1065 P) hZ hZ) (hN (o1081 P) hZ hZ)) (hN (o1057 P) (hN (o1073 P) hZ hZ) hZ)) (hN (o1040 P) (hN (o1053 P) (hN (o1069 P) hZ hZ) hZ) (hN (o1061 P) (hN (o1077 P) hZ hZ) hZ)))))
noncomputable def t1683 (P : Params) : BT :=  (hN (boot_o_0 P) (hN (boot_o_1 P) (hN (o1644 P) (hN (boot_o_7 P) (hN (o1046 P) (hN (o1062 P) (hN (o1100 P) (hN (o1166 P) (hN (o1300 P) (hN (o1652 P) hZ hZ) hZ) (hN (o1430 P) hZ hZ)) (hN (o1234 P) (hN (o1366 P) hZ hZ) (hN (o1494 P) hZ hZ))) (hN (o1132 P) (hN (o1202 P) (hN (o1334 P) hZ hZ) (hN (o1462 P) hZ hZ)) (hN (o1266 P) (hN (o1398 P) hZ hZ) (hN (o1618 P) hZ hZ)))) (hN (o1099 P) (hN (o1116 P) (hN (o1182 P) (hN (o1316 P) (hN (o1668 P) hZ hZ) hZ) (hN (o1446 P) hZ hZ)) (hN (o1250 P) (hN (o1382 P) hZ hZ) (hN (o1602 P) hZ hZ))) (hN (o1150 P) (hN (o1218 P) (hN (o1350 P) hZ hZ) (hN (o1478 P) hZ hZ)) (hN (o1284 P) (hN (o1414 P) hZ hZ) (hN (o1634 P) hZ hZ))))) (hN (o1054 P) (hN (o1070 P) (hN (o1108 P) (hN (o1174 P) (hN (o1308 P) (hN (o1660 P) hZ hZ) hZ) (hN (o1438 P) hZ hZ)) (hN (o1242 P) (hN (o1374 P) hZ hZ) (hN (o1594 P) hZ hZ))) (hN (o1140 P) (hN (o1210 P) (hN (o1342 P) hZ hZ) (hN (o1470 P) hZ hZ)) (hN (o1274 P) (hN (o1406 P) hZ hZ) (hN (o1626 P) hZ hZ)))) (hN (o1089 P) (hN (o1124 P) (hN (o1190 P) (hN (o1326 P) (hN (o1676 P) hZ hZ) hZ) (hN (o1454 P) hZ hZ)) (hN (o1258 P) (hN (o1390 P) hZ hZ) (hN (o1610 P) hZ hZ))) (hN (o1158 P) (hN (o1226 P) (hN (o1358 P) hZ hZ) (hN (o1486 P) hZ hZ)) (hN (o1292 P) (hN (o1422 P) hZ hZ) (hN (o1642 P) hZ hZ)))))) (hN (o1037 P) (hN (o1050 P) (hN (o1066 P) (hN (o1104 P) (hN (o1170 P) (hN (o1304 P) (hN (o1656 P) hZ hZ) hZ) (hN (o1434 P) hZ hZ)) (hN (o1238 P) (hN (o1370 P) hZ hZ) (hN (o1590 P) hZ hZ))) (hN (o1136 P) (hN (o1206 P) (hN (o1338 P) hZ hZ) (hN (o1466 P) hZ hZ)) (hN (o1270 P) (hN (o1402 P) hZ hZ) (hN (o1622 P) hZ hZ)))) (hN (o1085 P) (hN (o1120 P) (hN (o1186 P) (hN (o1320 P) (hN (o1672 P) hZ hZ) hZ) (hN (o1450 P) hZ hZ)) (hN (o1254 P) (hN (o1386 P) hZ hZ) (hN (o1606 P) hZ hZ))) (hN (o1154 P) (hN (o1222 P) (hN (o1354 P) hZ hZ) (hN (o1482 P) hZ hZ)) (hN (o1288 P) (hN (o1418 P) hZ hZ) (hN (o1638 P) hZ hZ))))) (hN (o1058 P) (hN (o1074 P) (hN (o1112 P) (hN (o1178 P) (hN (o1312 P) (hN (o1664 P) hZ hZ) hZ) (hN (o1442 P) hZ hZ)) (hN (o1246 P) (hN (o1378 P) hZ hZ) (hN (o1598 P) hZ hZ))) (hN (o1144 P) (hN (o1214 P) (hN (o1346 P) hZ hZ) (hN (o1474 P) hZ hZ)) (hN (o1278 P) (hN (o1410 P) hZ hZ) (hN (o1630 P) hZ hZ)))) (hN (o1093 P) (hN (o1128 P) (hN (o1198 P) (hN (o1330 P) (hN (o1680 P) hZ hZ) hZ) (hN (o1458 P) hZ hZ)) (hN (o1262 P) (hN (o1394 P) hZ hZ) (hN (o1614 P) hZ hZ))) (hN (o1162 P) (hN (o1230 P) (hN (o1362 P) hZ hZ) (hN (o1490 P) hZ hZ)) (hN (o1296 P) (hN (o1426 P) hZ hZ) (hN (o1648 P) hZ hZ))))))) (hN (boot_o_5 P) (hN (boot_o_9 P) (hN (o1048 P) (hN (o1064 P) (hN (o1102 P) (hN (o1168 P) (hN (o1302 P) (hN (o1654 P) hZ hZ) hZ) (hN (o1432 P) hZ hZ)) (hN (o1236 P) (hN (o1368 P) hZ hZ) (hN (o1496 P) hZ hZ))) (hN (o1134 P) (hN (o1204 P) (hN (o1336 P) hZ hZ) (hN (o1464 P) hZ hZ)) (hN (o1268 P) (hN (o1400 P) hZ hZ) (hN (o1620 P) hZ hZ)))) (hN (o1080 P) (hN (o1118 P) (hN (o1184 P) (hN (o1318 P) (hN (o1670 P) hZ hZ) hZ) (hN (o1448 P) hZ hZ)) (hN (o1252 P) (hN (o1384 P) hZ hZ) (hN (o1604 P) hZ hZ))) (hN (o1152 P) (hN (o1220 P) (hN (o1352 P) hZ hZ) (hN (o1480 P) hZ hZ)) (hN (o1286 P) (hN (o1416 P) hZ hZ) (hN (o1636 P) hZ hZ))))) (hN (o1056 P) (hN (o1072 P) (hN (o1110 P) (hN (o1176 P) (hN (o1310 P) (hN (o1662 P) hZ hZ) hZ) (hN (o1440 P) hZ hZ)) (hN (o1244 P) (hN (o1376 P) hZ hZ) (hN (o1596 P) hZ hZ))) (hN (o1142 P) (hN (o1212 P) (hN (o1344 P) hZ hZ) (hN (o1472 P) hZ hZ)) (hN (o1276 P) (hN (o1408 P) hZ hZ) (hN (o1628 P) hZ hZ)))) (hN (o1091 P) (hN (o1126 P) (hN (o1192 P) (hN (o1328 P) (hN (o1678 P) hZ hZ) hZ) (hN (o1456 P) hZ hZ)) (hN (o1260 P) (hN (o1392 P) hZ hZ) (hN (o1612 P) hZ hZ))) (hN (o1160 P) (hN (o1228 P) (hN (o1360 P) hZ hZ) (hN (o1488 P) hZ hZ)) (hN (o1294 P) (hN (o1424 P) hZ hZ) (hN (o1646 P) hZ hZ)))))) (hN (o1039 P) (hN (o1052 P) (hN (o1068 P) (hN (o1106 P) (hN (o1172 P) (hN (o1306 P) (hN (o1658 P) hZ hZ) hZ) (hN (o1436 P) hZ hZ)) (hN (o1240 P) (hN (o1372 P) hZ hZ) (hN (o1592 P) hZ hZ))) (hN (o1138 P) (hN (o1208 P) (hN (o1340 P) hZ hZ) (hN (o1468 P) hZ hZ)) (hN (o1272 P) (hN (o1404 P) hZ hZ) (hN (o1624 P) hZ hZ)))) (hN (o1087 P) (hN (o1122 P) (hN (o1188 P) (hN (o1322 P) (hN (o1674 P) hZ hZ) hZ) (hN (o1452 P) hZ hZ)) (hN (o1256 P) (hN (o1388 P) hZ hZ) (hN (o1608 P) hZ hZ))) (hN (o1156 P) (hN (o1224 P) (hN (o1356 P) hZ hZ) (hN (o1484 P) hZ hZ)) (hN (o1290 P) (hN (o1420 P) hZ hZ) (hN (o1640 P) hZ hZ))))) (hN (o1060 P) (hN (o1076 P) (hN (o1114 P) (hN (o1180 P) (hN (o1314 P) (hN (o1666 P) hZ hZ) hZ) (hN (o1444 P) hZ hZ)) (hN (o1248 P) (hN (o1380 P) hZ hZ) (hN (o1600 P) hZ hZ))) (hN (o1146 P) (hN (o1216 P) (hN (o1348 P) hZ hZ) (hN (o1476 P) hZ hZ)) (hN (o1280 P) (hN (o1412 P) hZ hZ) (hN (o1632 P) hZ hZ)))) (hN (o1095 P) (hN (o1130 P) (hN (o1200 P) (hN (o1332 P) (hN (o1682 P) hZ hZ) hZ) (hN (o1460 P) hZ hZ)) (hN (o1264 P) (hN (o1396 P) hZ hZ) (hN (o1616 P) hZ hZ))) (hN (o1164 P) (hN (o1232 P) (hN (o1364 P) hZ hZ) (hN (o1492 P) hZ hZ)) (hN (o1298 P) (hN (o1428 P) hZ hZ) (hN (o1650 P) hZ hZ)))))))) (hN (o1043 P) (hN (boot_o_4 P) (hN (boot_o_8 P) (hN (o1047 P) (hN (o1063 P) (hN (o1101 P) (hN (o1167 P) (hN (o1301 P) (hN (o1653 P) hZ hZ) hZ) (hN (o1431 P) hZ hZ)) (hN (o1235 P) (hN (o1367 P) hZ hZ) (hN (o1495 P) hZ hZ))) (hN (o1133 P) (hN (o1203 P) (hN (o1335 P) hZ hZ) (hN (o1463 P) hZ hZ)) (hN (o1267 P) (hN (o1399 P) hZ hZ) (hN (o1619 P) hZ hZ)))) (hN (o1079 P) (hN (o1117 P) (hN (o1183 P) (hN (o1317 P) (hN (o1669 P) hZ hZ) hZ) (hN (o1447 P) hZ hZ)) (hN (o1251 P) (hN (o1383 P) hZ hZ) (hN (o1603 P) hZ hZ))) (hN (o1151 P) (hN (o1219 P) (hN (o1351 P) hZ hZ) (hN (o1479 P) hZ hZ)) (hN (o1285 P) (hN (o1415 P) hZ hZ) (hN (o1635 P) hZ hZ))))) (hN (o1055 P) (hN (o1071 P) (hN (o1109 P) (hN (o1175 P) (hN (o1309 P) (hN (o1661 P) hZ hZ) hZ) (hN (o1439 P) hZ hZ)) (hN (o1243 P) (hN (o1375 P) hZ hZ) (hN (o1595 P) hZ hZ))) (hN (o1141 P) (hN (o1211 P) (hN (o1343 P) hZ hZ) (hN (o1471 P) hZ hZ)) (hN (o1275 P) (hN (o1407 P) hZ hZ) (hN (o1627 P) hZ hZ)))) (hN (o1090 P) (hN (o1125 P) (hN (o1191 P) (hN (o1327 P) (hN (o1677 P) hZ hZ) hZ) (hN (o1455 P) hZ hZ)) (hN (o1259 P) (hN (o1391 P) hZ hZ) (hN (o1611 P) hZ hZ))) (hN (o1159 P) (hN (o1227 P) (hN (o1359 P) hZ hZ) (hN (o1487 P) hZ hZ)) (hN (o1293 P) (hN (o1423 P) hZ hZ) (hN (o1643 P) hZ hZ)))))) (hN (o1645 P) (hN (o1051 P) (hN (o1067 P) (hN (o1105 P) (hN (o1171 P) (hN (o1305 P) (hN (o1657 P) hZ hZ) hZ) (hN (o1435 P) hZ hZ)) (hN (o1239 P) (hN (o1371 P) hZ hZ) (hN (o1591 P) hZ hZ))) (hN (o1137 P) (hN (o1207 P) (hN (o1339 P) hZ hZ) (hN (o1467 P) hZ hZ)) (hN (o1271 P) (hN (o1403 P) hZ hZ) (hN (o1623 P) hZ hZ)))) (hN (o1086 P) (hN (o1121 P) (hN (o1187 P) (hN (o1321 P) (hN (o1673 P) hZ hZ) hZ) (hN (o1451 P) hZ hZ)) (hN (o1255 P) (hN (o1387 P) hZ hZ) (hN (o1607 P) hZ hZ))) (hN (o1155 P) (hN (o1223 P) (hN (o1355 P) hZ hZ) (hN (o1483 P) hZ hZ)) (hN (o1289 P) (hN (o1419 P) hZ hZ) (hN (o1639 P) hZ hZ))))) (hN (o1059 P) (hN (o1075 P) (hN (o1113 P) (hN (o1179 P) (hN (o1313 P) (hN (o1665 P) hZ hZ) hZ) (hN (o1443 P) hZ hZ)) (hN (o1247 P) (hN (o1379 P) hZ hZ) (hN (o1599 P) hZ hZ))) (hN (o1145 P) (hN (o1215 P) (hN (o1347 P) hZ hZ) (hN (o1475 P) hZ hZ)) (hN (o1279 P) (hN (o1411 P) hZ hZ) (hN (o1631 P) hZ hZ)))) (hN (o1094 P) (hN (o1129 P) (hN (o1199 P) (hN (o1331 P) (hN (o1681 P) hZ hZ) hZ) (hN (o1459 P) hZ hZ)) (hN (o1263 P) (hN (o1395 P) hZ hZ) (hN (o1615 P) hZ hZ))) (hN (o1163 P) (hN (o1231 P) (hN (o1363 P) hZ hZ) (hN (o1491 P) hZ hZ)) (hN (o1297 P) (hN (o1427 P) hZ hZ) (hN (o1649 P) hZ hZ))))))) (hN (boot_o_6 P) (hN (boot_o_10 P) (hN (o1049 P) (hN (o1065 P) (hN (o1103 P) (hN (o1169 P) (hN (o1303 P) (hN (o1655 P) hZ hZ) hZ) (hN (o1433 P) hZ hZ)) (hN (o1237 P) (hN (o1369 P) hZ hZ) (hN (o1497 P) hZ hZ))) (hN (o1135 P) (hN (o1205 P) (hN (o1337 P) hZ hZ) (hN (o1465 P) hZ hZ)) (hN (o1269 P) (hN (o1401 P) hZ hZ) (hN (o1621 P) hZ hZ)))) (hN (o1081 P) (hN (o1119 P) (hN (o1185 P) (hN (o1319 P) (hN (o1671 P) hZ hZ) hZ) (hN (o1449 P) hZ hZ)) (hN (o1253 P) (hN (o1385 P) hZ hZ) (hN (o1605 P) hZ hZ))) (hN (o1153 P) (hN (o1221 P) (hN (o1353 P) hZ hZ) (hN (o1481 P) hZ hZ)) (hN (o1287 P) (hN (o1417 P) hZ hZ) (hN (o1637 P) hZ hZ))))) (hN (o1057 P) (hN (o1073 P) (hN (o1111 P) (hN (o1177 P) (hN (o1311 P) (hN (o1663 P) hZ hZ) hZ) (hN (o1441 P) hZ hZ)) (hN (o1245 P) (hN (o1377 P) hZ hZ) (hN (o1597 P) hZ hZ))) (hN (o1143 P) (hN (o1213 P) (hN (o1345 P) hZ hZ) (hN (o1473 P) hZ hZ)) (hN (o1277 P) (hN (o1409 P) hZ hZ) (hN (o1629 P) hZ hZ)))) (hN (o1092 P) (hN (o1127 P) (hN (o1197 P) (hN (o1329 P) (hN (o1679 P) hZ hZ) hZ) (hN (o1457 P) hZ hZ)) (hN (o1261 P) (hN (o1393 P) hZ hZ) (hN (o1613 P) hZ hZ))) (hN (o1161 P) (hN (o1229 P) (hN (o1361 P) hZ hZ) (hN (o1489 P) hZ hZ)) (hN (o1295 P) (hN (o1425 P) hZ hZ) (hN (o1647 P) hZ hZ)))))) (hN (o1040 P) (hN (o1053 P) (hN (o1069 P) (hN (o1107 P) (hN (o1173 P) (hN (o1307 P) (hN (o1659 P) hZ hZ) hZ) (hN (o1437 P) hZ hZ)) (hN (o1241 P) (hN (o1373 P) hZ hZ) (hN (o1593 P) hZ hZ))) (hN (o1139 P) (hN (o1209 P) (hN (o1341 P) hZ hZ) (hN (o1469 P) hZ hZ)) (hN (o1273 P) (hN (o1405 P) hZ hZ) (hN (o1625 P) hZ hZ)))) (hN (o1088 P) (hN (o1123 P) (hN (o1189 P) (hN (o1325 P) (hN (o1675 P) hZ hZ) hZ) (hN (o1453 P) hZ hZ)) (hN (o1257 P) (hN (o1389 P) hZ hZ) (hN (o1609 P) hZ hZ))) (hN (o1157 P) (hN (o1225 P) (hN (o1357 P) hZ hZ) (hN (o1485 P) hZ hZ)) (hN (o1291 P) (hN (o1421 P) hZ hZ) (hN (o1641 P) hZ hZ))))) (hN (o1061 P) (hN (o1077 P) (hN (o1115 P) (hN (o1181 P) (hN (o1315 P) (hN (o1667 P) hZ hZ) hZ) (hN (o1445 P) hZ hZ)) (hN (o1249 P) (hN (o1381 P) hZ hZ) (hN (o1601 P) hZ hZ))) (hN (o1147 P) (hN (o1217 P) (hN (o1349 P) hZ hZ) (hN (o1477 P) hZ hZ)) (hN (o1283 P) (hN (o1413 P) hZ hZ) (hN (o1633 P) hZ hZ)))) (hN (o1096 P) (hN (o1131 P) (hN (o1201 P) (hN (o1333 P) (hN (o1683 P) hZ hZ) hZ) (hN (o1461 P) hZ hZ)) (hN (o1265 P) (hN (o1397 P) hZ hZ) (hN (o1617 P) hZ hZ))) (hN (o1165 P) (hN (o1233 P) (hN (o1365 P) hZ hZ) (hN (o1493 P) hZ hZ)) (hN (o1299 P) (hN (o1429 P) hZ hZ) (hN (o1651 P) hZ hZ)))))))))
noncomputable def t1041 (P : Params) : BT :=  (hN (boot_o_0 P) (hN (boot_o_1 P) (hN (boot_o_3 P) (hN (boot_o_7 P) hZ hZ) (hN (o1037 P) hZ hZ)) (hN (boot_o_5 P) (hN (boot_o_9 P) hZ hZ) (hN (o1039 P) hZ hZ))) (hN (boot_o_2 P) (hN (boot_o_4 P) (hN (boot_o_8 P) hZ hZ) (hN (o1038 P) hZ hZ)) (hN (boot_o_6 P) (hN (boot_o_10 P) hZ hZ) (hN (o1040 P) hZ hZ))))
noncomputable def t1322 (P : Params) : BT :=  (hN (boot_o_0 P) (hN (boot_o_1 P) (hN (o1281 P) (hN (boot_o_7 P) (hN (o1046 P) (hN (o1062 P) (hN (o1100 P) (hN (o1166 P) (hN (o1300 P) hZ hZ) hZ) (hN (o1234 P) hZ hZ)) (hN (o1132 P) (hN (o1202 P) hZ hZ) (hN (o1266 P) hZ hZ))) (hN (o1099 P) (hN (o1116 P) (hN (o1182 P) (hN (o1316 P) hZ hZ) hZ) (hN (o1250 P) hZ hZ)) (hN (o1150 P) (hN (o1218 P) hZ hZ) (hN (o1284 P) hZ hZ)))) (hN (o1054 P) (hN (o1070 P) (hN (o1108 P) (hN (o1174 P) (hN (o1308 P) hZ hZ) hZ) (hN (o1242 P) hZ hZ)) (hN (o1140 P) (hN (o1210 P) hZ hZ) (hN (o1274 P) hZ hZ))) (hN (o1089 P) (hN (o1124 P) (hN (o1190 P) hZ hZ) (hN (o1258 P) hZ hZ)) (hN (o1158 P) (hN (o1226 P) hZ hZ) (hN (o1292 P) hZ hZ))))) (hN (o1037 P) (hN (o1050 P) (hN (o1066 P) (hN (o1104 P) (hN (o1170 P) (hN (o1304 P) hZ hZ) hZ) (hN (o1238 P) hZ hZ)) (hN (o1136 P) (hN (o1206 P) hZ hZ) (hN (o1270 P) hZ hZ))) (hN (o1085 P) (hN (o1120 P) (hN (o1186 P) (hN (o1320 P) hZ hZ) hZ) (hN (o1254 P) hZ hZ)) (hN (o1154 P) (hN (o1222 P) hZ hZ) (hN (o1288 P) hZ hZ)))) (hN (o1058 P) (hN (o1074 P) (hN (o1112 P) (hN (o1178 P) (hN (o1312 P) hZ hZ) hZ) (hN (o1246 P) hZ hZ)) (hN (o1144 P) (hN (o1214 P) hZ hZ) (hN (o1278 P) hZ hZ))) (hN (o1093 P) (hN (o1128 P) (hN (o1198 P) hZ hZ) (hN (o1262 P) hZ hZ)) (hN (o1162 P) (hN (o1230 P) hZ hZ) (hN (o1296 P) hZ hZ)))))) (hN (boot_o_5 P) (hN (boot_o_9 P) (hN (o1048 P) (hN (o1064 P) (hN (o1102 P) (hN (o1168 P) (hN (o1302 P) hZ hZ) hZ) (hN (o1236 P) hZ hZ)) (hN (o1134 P) (hN (o1204 P) hZ hZ) (hN (o1268 P) hZ hZ))) (hN (o1080 P) (hN (o1118 P) (hN (o1184 P) (hN (o1318 P) hZ hZ) hZ) (hN (o1252 P) hZ hZ)) (hN (o1152 P) (hN (o1220 P) hZ hZ) (hN (o1286 P) hZ hZ)))) (hN (o1056 P) (hN (o1072 P) (hN (o1110 P) (hN (o1176 P) (hN (o1310 P) hZ hZ) hZ) (hN (o1244 P) hZ hZ)) (hN (o1142 P) (hN (o1212 P) hZ hZ) (hN (o1276 P) hZ hZ))) (hN (o1091 P) (hN (o1126 P) (hN (o1192 P) hZ hZ) (hN (o1260 P) hZ hZ)) (hN (o1160 P) (hN (o1228 P) hZ hZ) (hN (o1294 P) hZ hZ))))) (hN (o1039 P) (hN (o1052 P) (hN (o1068 P) (hN (o1106 P) (hN (o1172 P) (hN (o1306 P) hZ hZ) hZ) (hN (o1240 P) hZ hZ)) (hN (o1138 P) (hN (o1208 P) hZ hZ) (hN (o1272 P) hZ hZ))) (hN (o1087 P) (hN (o1122 P) (hN (o1188 P) (hN (o1322 P) hZ hZ) hZ) (hN (o1256 P) hZ hZ)) (hN (o1156 P) (hN (o1224 P) hZ hZ) (hN (o1290 P) hZ hZ)))) (hN (o1060 P) (hN (o1076 P) (hN (o1114 P) (hN (o1180 P) (hN (o1314 P) hZ hZ) hZ) (hN (o1248 P) hZ hZ)) (hN (o1146 P) (hN (o1216 P) hZ hZ) (hN (o1280 P) hZ hZ))) (hN (o1095 P) (hN (o1130 P) (hN (o1200 P) hZ hZ) (hN (o1264 P) hZ hZ)) (hN (o1164 P) (hN (o1232 P) hZ hZ) (hN (o1298 P) hZ hZ))))))) (hN (o1043 P) (hN (boot_o_4 P) (hN (boot_o_8 P) (hN (o1047 P) (hN (o1063 P) (hN (o1101 P) (hN (o1167 P) (hN (o1301 P) hZ hZ) hZ) (hN (o1235 P) hZ hZ)) (hN (o1133 P) (hN (o1203 P) hZ hZ) (hN (o1267 P) hZ hZ))) (hN (o1079 P) (hN (o1117 P) (hN (o1183 P) (hN (o1317 P) hZ hZ) hZ) (hN (o1251 P) hZ hZ)) (hN (o1151 P) (hN (o1219 P) hZ hZ) (hN (o1285 P) hZ hZ)))) (hN (o1055 P) (hN (o1071 P) (hN (o1109 P) (hN (o1175 P) (hN (o1309 P) hZ hZ) hZ) (hN (o1243 P) hZ hZ)) (hN (o1141 P) (hN (o1211 P) hZ hZ) (hN (o1275 P) hZ hZ))) (hN (o1090 P) (hN (o1125 P) (hN (o1191 P) hZ hZ) (hN (o1259 P) hZ hZ)) (hN (o1159 P) (hN (o1227 P) hZ hZ) (hN (o1293 P) hZ hZ))))) (hN (o1282 P) (hN (o1051 P) (hN (o1067 P) (hN (o1105 P) (hN (o1171 P) (hN (o1305 P) hZ hZ) hZ) (hN (o1239 P) hZ hZ)) (hN (o1137 P) (hN (o1207 P) hZ hZ) (hN (o1271 P) hZ hZ))) (hN (o1086 P) (hN (o1121 P) (hN (o1187 P) (hN (o1321 P) hZ hZ) hZ) (hN (o1255 P) hZ hZ)) (hN (o1155 P) (hN (o1223 P) hZ hZ) (hN (o1289 P) hZ hZ)))) (hN (o1059 P) (hN (o1075 P) (hN (o1113 P) (hN (o1179 P) (hN (o1313 P) hZ hZ) hZ) (hN (o1247 P) hZ hZ)) (hN (o1145 P) (hN (o1215 P) hZ hZ) (hN (o1279 P) hZ hZ))) (hN (o1094 P) (hN (o1129 P) (hN (o1199 P) hZ hZ) (hN (o1263 P) hZ hZ)) (hN (o1163 P) (hN (o1231 P) hZ hZ) (hN (o1297 P) hZ hZ)))))) (hN (boot_o_6 P) (hN (boot_o_10 P) (hN (o1049 P) (hN (o1065 P) (hN (o1103 P) (hN (o1169 P) (hN (o1303 P) hZ hZ) hZ) (hN (o1237 P) hZ hZ)) (hN (o1135 P) (hN (o1205 P) hZ hZ) (hN (o1269 P) hZ hZ))) (hN (o1081 P) (hN (o1119 P) (hN (o1185 P) (hN (o1319 P) hZ hZ) hZ) (hN (o1253 P) hZ hZ)) (hN (o1153 P) (hN (o1221 P) hZ hZ) (hN (o1287 P) hZ hZ)))) (hN (o1057 P) (hN (o1073 P) (hN (o1111 P) (hN (o1177 P) (hN (o1311 P) hZ hZ) hZ) (hN (o1245 P) hZ hZ)) (hN (o1143 P) (hN (o1213 P) hZ hZ) (hN (o1277 P) hZ hZ))) (hN (o1092 P) (hN (o1127 P) (hN (o1197 P) hZ hZ) (hN (o1261 P) hZ hZ)) (hN (o1161 P) (hN (o1229 P) hZ hZ) (hN (o1295 P) hZ hZ))))) (hN (o1040 P) (hN (o1053 P) (hN (o1069 P) (hN (o1107 P) (hN (o1173 P) (hN (o1307 P) hZ hZ) hZ) (hN (o1241 P) hZ hZ)) (hN (o1139 P) (hN (o1209 P) hZ hZ) (hN (o1273 P) hZ hZ))) (hN (o1088 P) (hN (o1123 P) (hN (o1189 P) hZ hZ) (hN (o1257 P) hZ hZ)) (hN (o1157 P) (hN (o1225 P) hZ hZ) (hN (o1291 P) hZ hZ)))) (hN (o1061 P) (hN (o1077 P) (hN (o1115 P) (hN (o1181 P) (hN (o1315 P) hZ hZ) hZ) (hN (o1249 P) hZ hZ)) (hN (o1147 P) (hN (o1217 P) hZ hZ) (hN (o1283 P) hZ hZ))) (hN (o1096 P) (hN (o1131 P) (hN (o1201 P) hZ hZ) (hN (o1265 P) hZ hZ)) (hN (o1165 P) (hN (o1233 P) hZ hZ) (hN (o1299 P) hZ hZ))))))))
noncomputable def h1040 (P : Params) : Heap := ⟨⟨boot_o_0 P :: boot_o_1 P :: boot_o_2 P :: boot_o_3 P :: boot_o_4 P :: boot_o_5 P :: boot_o_6 P :: boot_o_7 P :: boot_o_8 P :: boot_o_9 P :: boot_o_10 P :: o1037 P :: o1038 P :: o1039 P :: o1040 P :: []⟩, L0⟩
noncomputable def h1684 (P : Params) : Heap := ⟨⟨boot_o_0 P :: boot_o_1 P :: o1043 P :: o1644 P :: boot_o_4 P :: boot_o_5 P :: boot_o_6 P :: boot_o_7 P :: boot_o_8 P :: boot_o_9 P :: boot_o_10 P :: o1037 P :: o1645 P :: o1039 P :: o1040 P :: o1046 P :: o1047 P :: o1048 P :: o1049 P :: o1050 P :: o1051 P :: o1052 P :: o1053 P :: o1054 P :: o1055 P :: o1056 P :: o1057 P :: o1058 P :: o1059 P :: o1060 P :: o1061 P :: o1062 P :: o1063 P :: o1064 P :: o1065 P :: o1066 P :: o1067 P :: o1068 P :: o1069 P :: o1070 P :: o1071 P :: o1072 P :: o1073 P :: o1074 P :: o1075 P :: o1076 P :: o1077 P :: o1099 P :: o1079 P :: o1080 P :: o1081 P :: o1085 P :: o1086 P :: o1087 P :: o1088 P :: o1089 P :: o1090 P :: o1091 P :: o1092 P :: o1093 P :: o1094 P :: o1095 P :: o1096 P :: o1100 P :: o1101 P :: o1102 P :: o1103 P :: o1104 P :: o1105 P :: o1106 P :: o1107 P :: o1108 P :: o1109 P :: o1110 P :: o1111 P :: o1112 P :: o1113 P :: o1114 P :: o1115 P :: o1116 P :: o1117 P :: o1118 P :: o1119 P :: o1120 P :: o1121 P :: o1122 P :: o1123 P :: o1124 P :: o1125 P :: o1126 P :: o1127 P :: o1128 P :: o1129 P :: o1130 P :: o1131 P :: o1132 P :: o1133 P :: o1134 P :: o1135 P :: o1136 P :: o1137 P :: o1138 P :: o1139 P :: o1140 P :: o1141 P :: o1142 P :: o1143 P :: o1144 P :: o1145 P :: o1146 P :: o1147 P :: o1150 P :: o1151 P :: o1152 P :: o1153 P :: o1154 P :: o1155 P :: o1156 P :: o1157 P :: o1158 P :: o1159 P :: o1160 P :: o1161 P :: o1162 P :: o1163 P :: o1164 P :: o1165 P :: o1166 P :: o1167 P :: o1168 P :: o1169 P :: o1170 P :: o1171 P :: o1172 P :: o1173 P :: o1174 P :: o1175 P :: o1176 P :: o1177 P :: o1178 P :: o1179 P :: o1180 P :: o1181 P :: o1182 P :: o1183 P :: o1184 P :: o1185 P :: o1186 P :: o1187 P :: o1188 P :: o1189 P :: o1190 P :: o1191 P :: o1192 P :: o1197 P :: o1198 P :: o1199 P :: o1200 P :: o1201 P :: o1202 P :: o1203 P :: o1204 P :: o1205 P :: o1206 P :: o1207 P :: o1208 P :: o1209 P :: o1210 P :: o1211 P :: o1212 P :: o1213 P :: o1214 P :: o1215 P :: o1216 P :: o1217 P :: o1218 P :: o1219 P :: o1220 P :: o1221 P :: o1222 P :: o1223 P :: o1224 P :: o1225 P :: o1226 P :: o1227 P :: o1228 P :: o1229 P :: o1230 P :: o1231 P :: o1232 P :: o1233 P :: o1234 P :: o1235 P :: o1236 P :: o1237 P :: o1238 P :: o1239 P :: o1240 P :: o1241 P :: o1242 P :: o1243 P :: o1244 P :: o1245 P :: o1246 P :: o1247 P :: o1248 P :: o1249 P :: o1250 P :: o1251 P :: o1252 P :: o1253 P :: o1254 P :: o1255 P :: o1256 P :: o1257 P :: o1258 P :: o1259 P :: o1260 P :: o1261 P :: o1262 P :: o1263 P :: o1264 P :: o1265 P :: o1266 P :: o1267 P :: o1268 P :: o1269 P :: o1270 P :: o1271 P :: o1272 P :: o1273 P :: o1274 P :: o1275 P :: o1276 P :: o1277 P :: o1278 P :: o1279 P :: o1280 P :: o1283 P :: o1284 P :: o1285 P :: o1286 P :: o1287 P :: o1288 P :: o1289 P :: o1290 P :: o1291 P :: o1292 P :: o1293 P :: o1294 P :: o1295 P :: o1296 P :: o1297 P :: o1298 P :: o1299 P :: o1300 P :: o1301 P :: o1302 P :: o1303 P :: o1304 P :: o1305 P :: o1306 P :: o1307 P :: o1308 P :: o1309 P :: o1310 P :: o1311 P :: o1312 P :: o1313 P :: o1314 P :: o1315 P :: o1316 P :: o1317 P :: o1318 P :: o1319 P :: o1320 P :: o1321 P :: o1322 P :: o1325 P :: o1326 P :: o1327 P :: o1328 P :: o1329 P :: o1330 P :: o1331 P :: o1332 P :: o1333 P :: o1334 P :: o1335 P :: o1336 P :: o1337 P :: o1338 P :: o1339 P :: o1340 P :: o1341 P :: o1342 P :: o1343 P :: o1344 P :: o1345 P :: o1346 P :: o1347 P :: o1348 P :: o1349 P :: o1350 P :: o1351 P :: o1352 P :: o1353 P :: o1354 P :: o1355 P :: o1356 P :: o1357 P :: o1358 P :: o1359 P :: o1360 P :: o1361 P :: o1362 P :: o1363 P :: o1364 P :: o1365 P :: o1366 P :: o1367 P :: o1368 P :: o1369 P :: o1370 P :: o1371 P :: o1372 P :: o1373 P :: o1374 P :: o1375 P :: o1376 P :: o1377 P :: o1378 P :: o1379 P :: o1380 P :: o1381 P :: o1382 P :: o1383 P :: o1384 P :: o1385 P :: o1386 P :: o1387 P :: o1388 P :: o1389 P :: o1390 P :: o1391 P :: o1392 P :: o1393 P :: o1394 P :: o1395 P :: o1396 P :: o1397 P :: o1398 P :: o1399 P :: o1400 P :: o1401 P :: o1402 P :: o1403 P :: o1404 P :: o1405 P :: o1406 P :: o1407 P :: o1408 P :: o1409 P :: o1410 P :: o1411 P :: o1412 P :: o1413 P :: o1414 P :: o1415 P :: o1416 P :: o1417 P :: o1418 P :: o1419 P :: o1420 P :: o1421 P :: o1422 P :: o1423 P :: o1424 P :: o1425 P :: o1426 P :: o1427 P :: o1428 P :: o1429 P :: o1430 P :: o1431 P :: o1432 P :: o1433 P :: o1434 P :: o1435 P :: o1436 P :: o1437 P :: o1438 P :: o1439 P :: o1440 P :: o1441 P :: o1442 P :: o1443 P :: o1444 P :: o1445 P :: o1446 P :: o1447 P :: o1448 P :: o1449 P :: o1450 P :: o1451 P :: o1452 P :: o1453 P :: o1454 P :: o1455 P :: o1456 P :: o1457 P :: o1458 P :: o1459 P :: o1460 P :: o1461 P :: o1462 P :: o1463 P :: o1464 P :: o1465 P :: o1466 P :: o1467 P :: o1468 P :: o1469 P :: o1470 P :: o1471 P :: o1472 P :: o1473 P :: o1474 P :: o1475 P :: o1476 P :: o1477 P :: o1478 P :: o1479 P :: o1480 P :: o1481 P :: o1482 P :: o1483 P :: o1484 P :: o1485 P :: o1486 P :: o1487 P :: o1488 P :: o1489 P :: o1490 P :: o1491 P :: o1492 P :: o1493 P :: o1494 P :: o1495 P :: o1496 P :: o1497 P :: o1590 P :: o1591 P :: o1592 P :: o1593 P :: o1594 P :: o1595 P :: o1596 P :: o1597 P :: o1598 P :: o1599 P :: o1600 P :: o1601 P :: o1602 P :: o1603 P :: o1604 P :: o1605 P :: o1606 P :: o1607 P :: o1608 P :: o1609 P :: o1610 P :: o1611 P :: o1612 P :: o1613 P :: o1614 P :: o1615 P :: o1616 P :: o1617 P :: o1618 P :: o1619 P :: o1620 P :: o1621 P :: o1622 P :: o1623 P :: o1624 P :: o1625 P :: o1626 P :: o1627 P :: o1628 P :: o1629 P :: o1630 P :: o1631 P :: o1632 P :: o1633 P :: o1634 P :: o1635 P :: o1636 P :: o1637 P :: o1638 P :: o1639 P :: o1640 P :: o1641 P :: o1642 P :: o1643 P :: o1646 P :: o1647 P :: o1648 P :: o1649 P :: o1650 P :: o1651 P :: o1652 P :: o1653 P :: o1654 P :: o1655 P :: o1656 P :: o1657 P :: o1658 P :: o1659 P :: o1660 P :: o1661 P :: o1662 P :: o1663 P :: o1664 P :: o1665 P :: o1666 P :: o1667 P :: o1668 P :: o1669 P :: o1670 P :: o1671 P :: o1672 P :: o1673 P :: o1674 P :: o1675 P :: o1676 P :: o1677 P :: o1678 P :: o1679 P :: o1680 P :: o1681 P :: o1682 P :: o1683 P :: []⟩, L0⟩
end Mine
end
noncomputable section
open PySem PySem.W PySem.W.X PyProof.Rows PySem.Calls
set_option Elab.async false
set_option maxRecDepth 100000
set_option maxHeartbeats 0
set_option linter.unusedVariables false
namespace Mine
theorem pc0 (w : World) (os : OsState) : segRunT treeTable pF w 11 (some (.ref 6)) 1 305 (ST t1041 15 187 w os) (thr 0 3 (po 0 0 0 0)) = some (.next, ST t1081 51 236 w os, cE, po 5 0 13 35) := by
  rw [Fast.te10110043849684766642, Fast.te14364793385576792824]
  kernel_rfl
theorem pc1 (w : World) (os : OsState) : segRunT treeTable pF w 11 (some (.ref 6)) 1 214 (ST t1081 51 236 w os) (thr 3 1 (po 5 0 13 35)) = some (.next, ST t1096 63 252 w os, cE, po 14 0 15 8) := by
  rw [Fast.te10110043849684766642, Fast.te14364793385576792824]
  kernel_rfl
theorem pc2 (w : World) (os : OsState) : segRunT treeTable pF w 11 (some (.ref 6)) 1 385 (ST t1096 63 252 w os) (thr 4 8 (po 14 0 15 8)) = some (.next, ST t1147 111 314 w os, cE, po 41 0 42 20) := by
  rw [Fast.te10110043849684766642, Fast.te14364793385576792824]
  kernel_rfl
theorem pc3_f (w : World) (os : OsState) : segRunT treeTable pF (w.withFollow "special-get-raises" false) 11 (some (.ref 6)) 1 383 (ST t1147 111 314 (w.withFollow "special-get-raises" false) os) (thr 12 9 (po 41 0 42 20)) = some (.next, ST t1192 154 409 (w.withFollow "special-get-raises" false) os, cE, po 89 0 95 26) := by
  rw [Fast.te10110043849684766642, Fast.te14364793385576792824]
  kernel_rfl
theorem pc3_t (w : World) (os : OsState) : segRunT treeTable pF (w.withFollow "special-get-raises" true) 11 (some (.ref 6)) 1 383 (ST t1147 111 314 (w.withFollow "special-get-raises" true) os) (thr 12 9 (po 41 0 42 20)) = some (.next, ST t1192 154 409 (w.withFollow "special-get-raises" true) os, cE, po 89 0 95 26) := by
  rw [Fast.te10110043849684766642, Fast.te14364793385576792824]
  kernel_rfl
theorem pc4 (w : World) (os : OsState) : segRunT treeTable pF w 11 (some (.ref 6)) 1 394 (ST t1192 154 409 w os) (thr 21 14 (po 89 0 95 26)) = some (.next, ST t1280 238 524 w os, cE, po 170 0 177 16) := by
  rw [Fast.te10110043849684766642, Fast.te14364793385576792824]
  kernel_rfl
theorem pc5 (w : World) (os : OsState) : segRunT treeTable pF w 11 (some (.ref 6)) 1 232 (ST t1280 238 524 w os) (thr 35 12 (po 170 0 177 16)) = some (.next, ST t1322 278 583 w os, cE, po 209 0 213 25) := by
  rw [Fast.te10110043849684766642, Fast.te14364793385576792824]
  kernel_rfl
theorem pc6 (w : World) (os : OsState) : segRunT treeTable pF w 11 (some (.ref 6)) 1 910 (ST t1322 278 583 w os) (thr 47 1 (po 209 0 213 25)) = some (.next, ST t1497 451 790 w os, cE, po 214 0 334 20) := by
  rw [Fast.te10110043849684766642, Fast.te14364793385576792824]
  kernel_rfl
theorem pc7 (w : World) (os : OsState) : segRunT treeTable pF w 11 (some (.ref 6)) 1 398 (ST t1497 451 790 w os) (thr 48 7 (po 214 0 334 20)) = some (.next, ST t1643 505 869 w os, cE, po 361 0 362 77) := by
  rw [Fast.te10110043849684766642, Fast.te14364793385576792824]
  kernel_rfl
theorem pc8 (w : World) (os : OsState) : segRunT treeTable pF w 11 (some (.ref 6)) 1 183 (ST t1643 505 869 w os) (thr 55 6 (po 361 0 362 77)) = some (.next, ST t1683 543 923 w os, cE, po 386 0 402 113) := by
  rw [Fast.te10110043849684766642, Fast.te14364793385576792824]
  kernel_rfl
theorem pc3 (w : World) (os : OsState) : segRunT treeTable pF w 11 (some (.ref 6)) 1 383 (ST t1147 111 314 w os) (thr 12 9 (po 41 0 42 20)) = some (.next, ST t1192 154 409 w os, cE, po 89 0 95 26) :=
  byRow2 (P := fun w => segRunT treeTable pF w 11 (some (.ref 6)) 1 383 (ST t1147 111 314 w os) (thr 12 9 (po 41 0 42 20)) = some (.next, ST t1192 154 409 w os, cE, po 89 0 95 26)) "special-get-raises" (fun w => pc3_f w os) (fun w => pc3_t w os) w
noncomputable abbrev sA (w : World) (os : OsState) : Shared := ⟨h1040 w.params, ⟨[]⟩, ⟨0, 0, 0, 0⟩, 187, os⟩
noncomputable abbrev sF (w : World) (os : OsState) : Shared := ⟨h1684 w.params, ⟨[]⟩, ⟨0, 0, 0, 0⟩, 923, os⟩
theorem pre_ (w : World) (os : OsState) : topGo treeTable pF w 11 (some (.ref 6)) 12 ⟨boot_heap w.params, ⟨[]⟩, boot_drawn, boot_toks, os⟩ (topStub pF) = some (sA w os, ⟨denote treeTable cE, cE, po 0 0 0 0, [topFrame (po 0 0 0 0)]⟩) := by
  rw [Fast.te15667345088766844465, Fast.te14364793385576792824, Fast.te11892475500146522536]
  kernel_rfl
theorem blk_ (w : World) (os : OsState) : segRun treeTable pF w 11 (some (.ref 6)) 1 1 (sA w os) (blockOf (behindTheImports pF) envF cE (po 0 0 0 0) [topFrame (po 0 0 0 0)]) = some (.next, (ST t1041 15 187 w os).abs, cE, po 0 0 0 0) := by
  rw [Fast.te14374325043358763698, Fast.te14364793385576792824]
  kernel_rfl
theorem fin_ (w : World) (os : OsState) : topRun treeTable pF w 11 (some (.ref 6)) 2 (ST t1683 543 923 w os).abs ⟨doneF .next, cE, po 386 0 402 113, [topFrame (po 0 0 0 0)]⟩ = some (sF w os) := by
  rw [Fast.te14082659384304107361, Fast.te14364793385576792824]
  kernel_rfl
theorem body_ : behindTheImports pF = stsF 0 3 ++ (stsF 3 1 ++ (stsF 4 8 ++ (stsF 12 9 ++ (stsF 21 14 ++ (stsF 35 12 ++ (stsF 47 1 ++ (stsF 48 7 ++ (stsF 55 6 ++ [])))))))) := by kernel_rfl
theorem run_ (w : World) (os : OsState) : topRun treeTable pF w 11 (some (.ref 6)) (12 + (1 + (305 + (214 + (385 + (383 + (394 + (232 + (910 + (398 + (183 + 2))))))))))) ⟨boot_heap w.params, ⟨[]⟩, boot_drawn, boot_toks, os⟩ (topStub pF) = some (sF w os) := by
  refine go_top (pre_ w os) (piece_block (blk_ w os) ?_)
  have h := fin_ w os
  replace h := piece_app (rest := []) (segRun_of (pc8 w os)) h
  replace h := piece_app (segRun_of (pc7 w os)) h
  replace h := piece_app (segRun_of (pc6 w os)) h
  replace h := piece_app (segRun_of (pc5 w os)) h
  replace h := piece_app (segRun_of (pc4 w os)) h
  replace h := piece_app (segRun_of (pc3 w os)) h
  replace h := piece_app (segRun_of (pc2 w os)) h
  replace h := piece_app (segRun_of (pc1 w os)) h
  replace h := piece_app (segRun_of (pc0 w os)) h
  rw [← body_] at h
  exact h
theorem open_ (w : World) : (fencedOpening treeTable pF w 20000).map (fun s => (s.heap, s.gens, s.drawn, s.toks)) = some (boot_heap w.params, ⟨[]⟩, boot_drawn, boot_toks) :=
  boot_open (by kernel_rfl) rfl (fun s => by kernel_rfl) w
theorem size_ (w : World) : ((boot_heap w.params).isNs mainGlobals && (⟨[]⟩ : Array GenState).size == 0, (boot_heap w.params).objs.size, (boot_heap w.params).nsMap mainGlobals "__annotations__") = (true, 11, some (.ref 6)) := by
  rw [Fast.te8920871248978507458]
  kernel_rfl
end Mine
end
noncomputable section
open PySem PySem.W PySem.W.X PyProof.Rows PySem.Calls
set_option Elab.async false
set_option maxRecDepth 100000
set_option maxHeartbeats 0
set_option linter.unusedVariables false
namespace Mine
noncomputable def viewF : Program := view pF [0, 2, 3, 4, 6, 7, 9, 10, 11, 12, 13, 14, 16, 17, 18, 19, 20, 21, 22, 23, 24, 26, 27, 28, 29, 30, 31, 32, 33, 34, 36, 37, 38, 40, 41, 43, 44, 45, 46, 47, 49, 51, 52, 53, 54, 55, 56, 57, 58, 59, 60]
noncomputable def looseF : List Str := [Str.ofString "LedgerError", Str.ofString "decimal", Str.ofString "FIGURE_NAMES", Str.ofString "Token"]
noncomputable def asF : List Nat := nat_lit 0 :: nat_lit 1 :: nat_lit 2 :: nat_lit 3 :: nat_lit 4 :: nat_lit 5 :: nat_lit 6 :: nat_lit 7 :: nat_lit 8 :: nat_lit 9 :: nat_lit 10 :: nat_lit 11 :: nat_lit 12 :: nat_lit 13 :: nat_lit 14 :: nat_lit 15 :: nat_lit 16 :: nat_lit 17 :: nat_lit 18 :: nat_lit 19 :: nat_lit 20 :: nat_lit 21 :: nat_lit 22 :: nat_lit 29 :: nat_lit 30 :: nat_lit 31 :: nat_lit 32 :: nat_lit 33 :: nat_lit 34 :: nat_lit 35 :: nat_lit 36 :: nat_lit 37 :: nat_lit 38 :: nat_lit 39 :: nat_lit 40 :: nat_lit 41 :: nat_lit 42 :: nat_lit 43 :: nat_lit 44 :: nat_lit 45 :: nat_lit 46 :: nat_lit 47 :: nat_lit 48 :: nat_lit 51 :: nat_lit 58 :: nat_lit 59 :: nat_lit 60 :: nat_lit 63 :: nat_lit 70 :: nat_lit 71 :: nat_lit 72 :: nat_lit 75 :: nat_lit 76 :: nat_lit 77 :: nat_lit 78 :: nat_lit 79 :: nat_lit 80 :: nat_lit 81 :: nat_lit 82 :: nat_lit 83 :: nat_lit 84 :: nat_lit 85 :: nat_lit 86 :: nat_lit 87 :: nat_lit 88 :: nat_lit 89 :: nat_lit 90 :: nat_lit 91 :: nat_lit 92 :: nat_lit 93 :: nat_lit 94 :: nat_lit 95 :: nat_lit 96 :: nat_lit 97 :: nat_lit 98 :: nat_lit 99 :: nat_lit 100 :: nat_lit 101 :: nat_lit 102 :: nat_lit 103 :: nat_lit 104 :: nat_lit 105 :: nat_lit 106 :: nat_lit 107 :: nat_lit 108 :: nat_lit 109 :: nat_lit 110 :: nat_lit 111 :: nat_lit 112 :: nat_lit 113 :: nat_lit 114 :: nat_lit 115 :: nat_lit 116 :: nat_lit 117 :: nat_lit 118 :: nat_lit 119 :: nat_lit 120 :: nat_lit 121 :: nat_lit 122 :: nat_lit 123 :: nat_lit 124 :: nat_lit 125 :: nat_lit 126 :: nat_lit 127 :: nat_lit 128 :: nat_lit 129 :: nat_lit 130 :: nat_lit 131 :: nat_lit 132 :: nat_lit 133 :: nat_lit 134 :: nat_lit 135 :: nat_lit 136 :: nat_lit 137 :: nat_lit 138 :: nat_lit 139 :: nat_lit 140 :: nat_lit 141 :: nat_lit 142 :: nat_lit 143 :: nat_lit 144 :: nat_lit 145 :: nat_lit 146 :: nat_lit 147 :: nat_lit 148 :: nat_lit 149 :: nat_lit 150 :: nat_lit 151 :: nat_lit 152 :: nat_lit 153 :: nat_lit 154 :: nat_lit 155 :: nat_lit 156 :: nat_lit 157 :: nat_lit 158 :: nat_lit 159 :: nat_lit 160 :: nat_lit 161 :: nat_lit 162 :: nat_lit 163 :: nat_lit 164 :: nat_lit 165 :: nat_lit 166 :: nat_lit 167 :: nat_lit 168 :: nat_lit 169 :: nat_lit 170 :: nat_lit 171 :: nat_lit 172 :: nat_lit 173 :: nat_lit 174 :: nat_lit 175 :: nat_lit 176 :: nat_lit 177 :: nat_lit 178 :: nat_lit 179 :: nat_lit 180 :: nat_lit 181 :: nat_lit 182 :: nat_lit 183 :: nat_lit 184 :: nat_lit 185 :: nat_lit 186 :: nat_lit 187 :: nat_lit 188 :: nat_lit 189 :: nat_lit 190 :: nat_lit 191 :: nat_lit 192 :: nat_lit 193 :: nat_lit 194 :: nat_lit 195 :: nat_lit 196 :: nat_lit 197 :: nat_lit 198 :: nat_lit 199 :: nat_lit 200 :: nat_lit 201 :: nat_lit 202 :: nat_lit 203 :: nat_lit 204 :: nat_lit 205 :: nat_lit 206 :: nat_lit 207 :: nat_lit 208 :: nat_lit 209 :: nat_lit 210 :: nat_lit 211 :: nat_lit 212 :: nat_lit 213 :: nat_lit 214 :: nat_lit 215 :: nat_lit 216 :: nat_lit 217 :: nat_lit 218 :: nat_lit 219 :: nat_lit 220 :: nat_lit 221 :: nat_lit 222 :: nat_lit 223 :: nat_lit 224 :: nat_lit 225 :: nat_lit 226 :: nat_lit 227 :: nat_lit 228 :: nat_lit 229 :: nat_lit 230 :: nat_lit 231 :: nat_lit 232 :: nat_lit 233 :: nat_lit 234 :: nat_lit 235 :: nat_lit 236 :: nat_lit 237 :: nat_lit 238 :: nat_lit 239 :: nat_lit 240 :: nat_lit 241 :: nat_lit 242 :: nat_lit 243 :: nat_lit 244 :: nat_lit 245 :: nat_lit 246 :: nat_lit 247 :: nat_lit 248 :: nat_lit 249 :: nat_lit 250 :: nat_lit 251 :: nat_lit 252 :: nat_lit 253 :: nat_lit 254 :: nat_lit 255 :: nat_lit 256 :: nat_lit 257 :: nat_lit 258 :: nat_lit 259 :: nat_lit 260 :: nat_lit 261 :: nat_lit 262 :: nat_lit 263 :: nat_lit 264 :: nat_lit 265 :: nat_lit 266 :: nat_lit 267 :: nat_lit 268 :: nat_lit 269 :: nat_lit 270 :: nat_lit 271 :: nat_lit 272 :: nat_lit 273 :: nat_lit 274 :: nat_lit 275 :: nat_lit 276 :: nat_lit 277 :: nat_lit 285 :: nat_lit 286 :: nat_lit 287 :: nat_lit 288 :: nat_lit 289 :: nat_lit 290 :: nat_lit 291 :: nat_lit 292 :: nat_lit 293 :: nat_lit 294 :: nat_lit 295 :: nat_lit 296 :: nat_lit 297 :: nat_lit 298 :: nat_lit 299 :: nat_lit 300 :: nat_lit 301 :: nat_lit 302 :: nat_lit 303 :: nat_lit 304 :: nat_lit 305 :: nat_lit 306 :: nat_lit 307 :: nat_lit 308 :: nat_lit 309 :: nat_lit 310 :: nat_lit 311 :: nat_lit 312 :: nat_lit 313 :: nat_lit 314 :: nat_lit 315 :: nat_lit 316 :: nat_lit 317 :: nat_lit 318 :: nat_lit 319 :: nat_lit 320 :: nat_lit 321 :: nat_lit 322 :: nat_lit 323 :: nat_lit 324 :: nat_lit 325 :: nat_lit 326 :: nat_lit 327 :: nat_lit 328 :: nat_lit 329 :: nat_lit 330 :: nat_lit 331 :: nat_lit 332 :: nat_lit 333 :: nat_lit 334 :: nat_lit 335 :: nat_lit 336 :: nat_lit 337 :: nat_lit 338 :: nat_lit 339 :: nat_lit 340 :: nat_lit 341 :: nat_lit 342 :: nat_lit 343 :: nat_lit 344 :: nat_lit 345 :: nat_lit 346 :: nat_lit 347 :: nat_lit 348 :: nat_lit 349 :: nat_lit 350 :: nat_lit 351 :: nat_lit 352 :: nat_lit 353 :: nat_lit 354 :: nat_lit 355 :: nat_lit 356 :: nat_lit 357 :: nat_lit 358 :: nat_lit 359 :: nat_lit 360 :: nat_lit 361 :: nat_lit 362 :: nat_lit 363 :: nat_lit 364 :: nat_lit 365 :: nat_lit 366 :: nat_lit 367 :: nat_lit 368 :: nat_lit 369 :: nat_lit 370 :: nat_lit 371 :: nat_lit 372 :: nat_lit 373 :: nat_lit 374 :: nat_lit 375 :: nat_lit 376 :: nat_lit 377 :: nat_lit 378 :: nat_lit 379 :: nat_lit 380 :: nat_lit 381 :: nat_lit 382 :: nat_lit 383 :: nat_lit 384 :: nat_lit 385 :: nat_lit 386 :: nat_lit 387 :: nat_lit 388 :: nat_lit 389 :: nat_lit 390 :: nat_lit 391 :: nat_lit 392 :: nat_lit 393 :: nat_lit 394 :: nat_lit 395 :: nat_lit 396 :: nat_lit 397 :: nat_lit 398 :: nat_lit 399 :: nat_lit 400 :: nat_lit 401 :: nat_lit 402 :: nat_lit 403 :: nat_lit 404 :: nat_lit 405 :: nat_lit 406 :: nat_lit 407 :: nat_lit 408 :: nat_lit 409 :: nat_lit 410 :: nat_lit 411 :: nat_lit 412 :: nat_lit 413 :: nat_lit 414 :: nat_lit 415 :: nat_lit 416 :: nat_lit 417 :: nat_lit 418 :: nat_lit 419 :: nat_lit 420 :: nat_lit 421 :: nat_lit 422 :: nat_lit 423 :: nat_lit 424 :: nat_lit 425 :: nat_lit 426 :: nat_lit 427 :: nat_lit 428 :: nat_lit 429 :: nat_lit 430 :: nat_lit 431 :: nat_lit 432 :: nat_lit 433 :: nat_lit 434 :: nat_lit 435 :: nat_lit 436 :: nat_lit 437 :: nat_lit 438 :: nat_lit 439 :: nat_lit 440 :: nat_lit 441 :: nat_lit 442 :: nat_lit 443 :: nat_lit 444 :: nat_lit 445 :: nat_lit 446 :: nat_lit 447 :: nat_lit 448 :: nat_lit 458 :: nat_lit 459 :: nat_lit 460 :: nat_lit 461 :: nat_lit 462 :: nat_lit 463 :: nat_lit 464 :: nat_lit 465 :: nat_lit 466 :: nat_lit 467 :: nat_lit 468 :: nat_lit 469 :: nat_lit 470 :: nat_lit 471 :: nat_lit 472 :: nat_lit 473 :: nat_lit 474 :: nat_lit 475 :: nat_lit 476 :: nat_lit 477 :: nat_lit 478 :: nat_lit 481 :: nat_lit 482 :: nat_lit 483 :: nat_lit 484 :: nat_lit 485 :: nat_lit 486 :: nat_lit 487 :: nat_lit 488 :: nat_lit 489 :: nat_lit 490 :: nat_lit 491 :: nat_lit 492 :: nat_lit 493 :: nat_lit 494 :: nat_lit 495 :: nat_lit 496 :: nat_lit 497 :: nat_lit 498 :: nat_lit 499 :: nat_lit 500 :: nat_lit 501 :: nat_lit 502 :: nat_lit 503 :: nat_lit 504 :: nat_lit 505 :: nat_lit 506 :: nat_lit 507 :: nat_lit 508 :: nat_lit 509 :: nat_lit 510 :: nat_lit 511 :: nat_lit 512 :: nat_lit 513 :: nat_lit 514 :: nat_lit 515 :: nat_lit 516 :: nat_lit 517 :: nat_lit 518 :: nat_lit 519 :: nat_lit 520 :: nat_lit 521 :: nat_lit 522 :: nat_lit 523 :: nat_lit 524 :: nat_lit 525 :: nat_lit 526 :: nat_lit 527 :: nat_lit 528 :: nat_lit 529 :: nat_lit 530 :: nat_lit 531 :: nat_lit 532 :: nat_lit 533 :: nat_lit 534 :: nat_lit 535 :: nat_lit 536 :: nat_lit 537 :: nat_lit 538 :: nat_lit 539 :: nat_lit 540 :: nat_lit 541 :: nat_lit 542 :: []
noncomputable def KF (P : Params) : Frag := (nat_lit 0, boot_o_0 P) :: (nat_lit 1, boot_o_1 P) :: (nat_lit 2, o1043 P) :: (nat_lit 3, o1644 P) :: (nat_lit 4, boot_o_4 P) :: (nat_lit 5, boot_o_5 P) :: (nat_lit 6, boot_o_6 P) :: (nat_lit 7, boot_o_7 P) :: (nat_lit 8, boot_o_8 P) :: (nat_lit 9, boot_o_9 P) :: (nat_lit 10, boot_o_10 P) :: (nat_lit 11, o1037 P) :: (nat_lit 12, o1645 P) :: (nat_lit 13, o1039 P) :: (nat_lit 14, o1040 P) :: (nat_lit 15, o1046 P) :: (nat_lit 16, o1047 P) :: (nat_lit 17, o1048 P) :: (nat_lit 18, o1049 P) :: (nat_lit 19, o1050 P) :: (nat_lit 20, o1051 P) :: (nat_lit 21, o1052 P) :: (nat_lit 22, o1053 P) :: (nat_lit 29, o1060 P) :: (nat_lit 30, o1061 P) :: (nat_lit 31, o1062 P) :: (nat_lit 32, o1063 P) :: (nat_lit 33, o1064 P) :: (nat_lit 34, o1065 P) :: (nat_lit 35, o1066 P) :: (nat_lit 36, o1067 P) :: (nat_lit 37, o1068 P) :: (nat_lit 38, o1069 P) :: (nat_lit 39, o1070 P) :: (nat_lit 40, o1071 P) :: (nat_lit 41, o1072 P) :: (nat_lit 42, o1073 P) :: (nat_lit 43, o1074 P) :: (nat_lit 44, o1075 P) :: (nat_lit 45, o1076 P) :: (nat_lit 46, o1077 P) :: (nat_lit 47, o1099 P) :: (nat_lit 48, o1079 P) :: (nat_lit 51, o1085 P) :: (nat_lit 58, o1092 P) :: (nat_lit 59, o1093 P) :: (nat_lit 60, o1094 P) :: (nat_lit 63, o1100 P) :: (nat_lit 70, o1107 P) :: (nat_lit 71, o1108 P) :: (nat_lit 72, o1109 P) :: (nat_lit 75, o1112 P) :: (nat_lit 76, o1113 P) :: (nat_lit 77, o1114 P) :: (nat_lit 78, o1115 P) :: (nat_lit 79, o1116 P) :: (nat_lit 80, o1117 P) :: (nat_lit 81, o1118 P) :: (nat_lit 82, o1119 P) :: (nat_lit 83, o1120 P) :: (nat_lit 84, o1121 P) :: (nat_lit 85, o1122 P) :: (nat_lit 86, o1123 P) :: (nat_lit 87, o1124 P) :: (nat_lit 88, o1125 P) :: (nat_lit 89, o1126 P) :: (nat_lit 90, o1127 P) :: (nat_lit 91, o1128 P) :: (nat_lit 92, o1129 P) :: (nat_lit 93, o1130 P) :: (nat_lit 94, o1131 P) :: (nat_lit 95, o1132 P) :: (nat_lit 96, o1133 P) :: (nat_lit 97, o1134 P) :: (nat_lit 98, o1135 P) :: (nat_lit 99, o1136 P) :: (nat_lit 100, o1137 P) :: (nat_lit 101, o1138 P) :: (nat_lit 102, o1139 P) :: (nat_lit 103, o1140 P) :: (nat_lit 104, o1141 P) :: (nat_lit 105, o1142 P) :: (nat_lit 106, o1143 P) :: (nat_lit 107, o1144 P) :: (nat_lit 108, o1145 P) :: (nat_lit 109, o1146 P) :: (nat_lit 110, o1147 P) :: (nat_lit 111, o1150 P) :: (nat_lit 112, o1151 P) :: (nat_lit 113, o1152 P) :: (nat_lit 114, o1153 P) :: (nat_lit 115, o1154 P) :: (nat_lit 116, o1155 P) :: (nat_lit 117, o1156 P) :: (nat_lit 118, o1157 P) :: (nat_lit 119, o1158 P) :: (nat_lit 120, o1159 P) :: (nat_lit 121, o1160 P) :: (nat_lit 122, o1161 P) :: (nat_lit 123, o1162 P) :: (nat_lit 124, o1163 P) :: (nat_lit 125, o1164 P) :: (nat_lit 126, o1165 P) :: (nat_lit 127, o1166 P) :: (nat_lit 128, o1167 P) :: (nat_lit 129, o1168 P) :: (nat_lit 130, o1169 P) :: (nat_lit 131, o1170 P) :: (nat_lit 132, o1171 P) :: (nat_lit 133, o1172 P) :: (nat_lit 134, o1173 P) :: (nat_lit 135, o1174 P) :: (nat_lit 136, o1175 P) :: (nat_lit 137, o1176 P) :: (nat_lit 138, o1177 P) :: (nat_lit 139, o1178 P) :: (nat_lit 140, o1179 P) :: (nat_lit 141, o1180 P) :: (nat_lit 142, o1181 P) :: (nat_lit 143, o1182 P) :: (nat_lit 144, o1183 P) :: (nat_lit 145, o1184 P) :: (nat_lit 146, o1185 P) :: (nat_lit 147, o1186 P) :: (nat_lit 148, o1187 P) :: (nat_lit 149, o1188 P) :: (nat_lit 150, o1189 P) :: (nat_lit 151, o1190 P) :: (nat_lit 152, o1191 P) :: (nat_lit 153, o1192 P) :: (nat_lit 154, o1197 P) :: (nat_lit 155, o1198 P) :: (nat_lit 156, o1199 P) :: (nat_lit 157, o1200 P) :: (nat_lit 158, o1201 P) :: (nat_lit 159, o1202 P) :: (nat_lit 160, o1203 P) :: (nat_lit 161, o1204 P) :: (nat_lit 162, o1205 P) :: (nat_lit 163, o1206 P) :: (nat_lit 164, o1207 P) :: (nat_lit 165, o1208 P) :: (nat_lit 166, o1209 P) :: (nat_lit 167, o1210 P) :: (nat_lit 168, o1211 P) :: (nat_lit 169, o1212 P) :: (nat_lit 170, o1213 P) :: (nat_lit 171, o1214 P) :: (nat_lit 172, o1215 P) :: (nat_lit 173, o1216 P) :: (nat_lit 174, o1217 P) :: (nat_lit 175, o1218 P) :: (nat_lit 176, o1219 P) :: (nat_lit 177, o1220 P) :: (nat_lit 178, o1221 P) :: (nat_lit 179, o1222 P) :: (nat_lit 180, o1223 P) :: (nat_lit 181, o1224 P) :: (nat_lit 182, o1225 P) :: (nat_lit 183, o1226 P) :: (nat_lit 184, o1227 P) :: (nat_lit 185, o1228 P) :: (nat_lit 186, o1229 P) :: (nat_lit 187, o1230 P) :: (nat_lit 188, o1231 P) :: (nat_lit 189, o1232 P) :: (nat_lit 190, o1233 P) :: (nat_lit 191, o1234 P) :: (nat_lit 192, o1235 P) :: (nat_lit 193, o1236 P) :: (nat_lit 194, o1237 P) :: (nat_lit 195, o1238 P) :: (nat_lit 196, o1239 P) :: (nat_lit 197, o1240 P) :: (nat_lit 198, o1241 P) :: (nat_lit 199, o1242 P) :: (nat_lit 200, o1243 P) :: (nat_lit 201, o1244 P) :: (nat_lit 202, o1245 P) :: (nat_lit 203, o1246 P) :: (nat_lit 204, o1247 P) :: (nat_lit 205, o1248 P) :: (nat_lit 206, o1249 P) :: (nat_lit 207, o1250 P) :: (nat_lit 208, o1251 P) :: (nat_lit 209, o1252 P) :: (nat_lit 210, o1253 P) :: (nat_lit 211, o1254 P) :: (nat_lit 212, o1255 P) :: (nat_lit 213, o1256 P) :: (nat_lit 214, o1257 P) :: (nat_lit 215, o1258 P) :: (nat_lit 216, o1259 P) :: (nat_lit 217, o1260 P) :: (nat_lit 218, o1261 P) :: (nat_lit 219, o1262 P) :: (nat_lit 220, o1263 P) :: (nat_lit 221, o1264 P) :: (nat_lit 222, o1265 P) :: (nat_lit 223, o1266 P) :: (nat_lit 224, o1267 P) :: (nat_lit 225, o1268 P) :: (nat_lit 226, o1269 P) :: (nat_lit 227, o1270 P) :: (nat_lit 228, o1271 P) :: (nat_lit 229, o1272 P) :: (nat_lit 230, o1273 P) :: (nat_lit 231, o1274 P) :: (nat_lit 232, o1275 P) :: (nat_lit 233, o1276 P) :: (nat_lit 234, o1277 P) :: (nat_lit 235, o1278 P) :: (nat_lit 236, o1279 P) :: (nat_lit 237, o1280 P) :: (nat_lit 238, o1283 P) :: (nat_lit 239, o1284 P) :: (nat_lit 240, o1285 P) :: (nat_lit 241, o1286 P) :: (nat_lit 242, o1287 P) :: (nat_lit 243, o1288 P) :: (nat_lit 244, o1289 P) :: (nat_lit 245, o1290 P) :: (nat_lit 246, o1291 P) :: (nat_lit 247, o1292 P) :: (nat_lit 248, o1293 P) :: (nat_lit 249, o1294 P) :: (nat_lit 250, o1295 P) :: (nat_lit 251, o1296 P) :: (nat_lit 252, o1297 P) :: (nat_lit 253, o1298 P) :: (nat_lit 254, o1299 P) :: (nat_lit 255, o1300 P) :: (nat_lit 256, o1301 P) :: (nat_lit 257, o1302 P) :: (nat_lit 258, o1303 P) :: (nat_lit 259, o1304 P) :: (nat_lit 260, o1305 P) :: (nat_lit 261, o1306 P) :: (nat_lit 262, o1307 P) :: (nat_lit 263, o1308 P) :: (nat_lit 264, o1309 P) :: (nat_lit 265, o1310 P) :: (nat_lit 266, o1311 P) :: (nat_lit 267, o1312 P) :: (nat_lit 268, o1313 P) :: (nat_lit 269, o1314 P) :: (nat_lit 270, o1315 P) :: (nat_lit 271, o1316 P) :: (nat_lit 272, o1317 P) :: (nat_lit 273, o1318 P) :: (nat_lit 274, o1319 P) :: (nat_lit 275, o1320 P) :: (nat_lit 276, o1321 P) :: (nat_lit 277, o1322 P) :: (nat_lit 285, o1332 P) :: (nat_lit 286, o1333 P) :: (nat_lit 287, o1334 P) :: (nat_lit 288, o1335 P) :: (nat_lit 289, o1336 P) :: (nat_lit 290, o1337 P) :: (nat_lit 291, o1338 P) :: (nat_lit 292, o1339 P) :: (nat_lit 293, o1340 P) :: (nat_lit 294, o1341 P) :: (nat_lit 295, o1342 P) :: (nat_lit 296, o1343 P) :: (nat_lit 297, o1344 P) :: (nat_lit 298, o1345 P) :: (nat_lit 299, o1346 P) :: (nat_lit 300, o1347 P) :: (nat_lit 301, o1348 P) :: (nat_lit 302, o1349 P) :: (nat_lit 303, o1350 P) :: (nat_lit 304, o1351 P) :: (nat_lit 305, o1352 P) :: (nat_lit 306, o1353 P) :: (nat_lit 307, o1354 P) :: (nat_lit 308, o1355 P) :: (nat_lit 309, o1356 P) :: (nat_lit 310, o1357 P) :: (nat_lit 311, o1358 P) :: (nat_lit 312, o1359 P) :: (nat_lit 313, o1360 P) :: (nat_lit 314, o1361 P) :: (nat_lit 315, o1362 P) :: (nat_lit 316, o1363 P) :: (nat_lit 317, o1364 P) :: (nat_lit 318, o1365 P) :: (nat_lit 319, o1366 P) :: (nat_lit 320, o1367 P) :: (nat_lit 321, o1368 P) :: (nat_lit 322, o1369 P) :: (nat_lit 323, o1370 P) :: (nat_lit 324, o1371 P) :: (nat_lit 325, o1372 P) :: (nat_lit 326, o1373 P) :: (nat_lit 327, o1374 P) :: (nat_lit 328, o1375 P) :: (nat_lit 329, o1376 P) :: (nat_lit 330, o1377 P) :: (nat_lit 331, o1378 P) :: (nat_lit 332, o1379 P) :: (nat_lit 333, o1380 P) :: (nat_lit 334, o1381 P) :: (nat_lit 335, o1382 P) :: (nat_lit 336, o1383 P) :: (nat_lit 337, o1384 P) :: (nat_lit 338, o1385 P) :: (nat_lit 339, o1386 P) :: (nat_lit 340, o1387 P) :: (nat_lit 341, o1388 P) :: (nat_lit 342, o1389 P) :: (nat_lit 343, o1390 P) :: (nat_lit 344, o1391 P) :: (nat_lit 345, o1392 P) :: (nat_lit 346, o1393 P) :: (nat_lit 347, o1394 P) :: (nat_lit 348, o1395 P) :: (nat_lit 349, o1396 P) :: (nat_lit 350, o1397 P) :: (nat_lit 351, o1398 P) :: (nat_lit 352, o1399 P) :: (nat_lit 353, o1400 P) :: (nat_lit 354, o1401 P) :: (nat_lit 355, o1402 P) :: (nat_lit 356, o1403 P) :: (nat_lit 357, o1404 P) :: (nat_lit 358, o1405 P) :: (nat_lit 359, o1406 P) :: (nat_lit 360, o1407 P) :: (nat_lit 361, o1408 P) :: (nat_lit 362, o1409 P) :: (nat_lit 363, o1410 P) :: (nat_lit 364, o1411 P) :: (nat_lit 365, o1412 P) :: (nat_lit 366, o1413 P) :: (nat_lit 367, o1414 P) :: (nat_lit 368, o1415 P) :: (nat_lit 369, o1416 P) :: (nat_lit 370, o1417 P) :: (nat_lit 371, o1418 P) :: (nat_lit 372, o1419 P) :: (nat_lit 373, o1420 P) :: (nat_lit 374, o1421 P) :: (nat_lit 375, o1422 P) :: (nat_lit 376, o1423 P) :: (nat_lit 377, o1424 P) :: (nat_lit 378, o1425 P) :: (nat_lit 379, o1426 P) :: (nat_lit 380, o1427 P) :: (nat_lit 381, o1428 P) :: (nat_lit 382, o1429 P) :: (nat_lit 383, o1430 P) :: (nat_lit 384, o1431 P) :: (nat_lit 385, o1432 P) :: (nat_lit 386, o1433 P) :: (nat_lit 387, o1434 P) :: (nat_lit 388, o1435 P) :: (nat_lit 389, o1436 P) :: (nat_lit 390, o1437 P) :: (nat_lit 391, o1438 P) :: (nat_lit 392, o1439 P) :: (nat_lit 393, o1440 P) :: (nat_lit 394, o1441 P) :: (nat_lit 395, o1442 P) :: (nat_lit 396, o1443 P) :: (nat_lit 397, o1444 P) :: (nat_lit 398, o1445 P) :: (nat_lit 399, o1446 P) :: (nat_lit 400, o1447 P) :: (nat_lit 401, o1448 P) :: (nat_lit 402, o1449 P) :: (nat_lit 403, o1450 P) :: (nat_lit 404, o1451 P) :: (nat_lit 405, o1452 P) :: (nat_lit 406, o1453 P) :: (nat_lit 407, o1454 P) :: (nat_lit 408, o1455 P) :: (nat_lit 409, o1456 P) :: (nat_lit 410, o1457 P) :: (nat_lit 411, o1458 P) :: (nat_lit 412, o1459 P) :: (nat_lit 413, o1460 P) :: (nat_lit 414, o1461 P) :: (nat_lit 415, o1462 P) :: (nat_lit 416, o1463 P) :: (nat_lit 417, o1464 P) :: (nat_lit 418, o1465 P) :: (nat_lit 419, o1466 P) :: (nat_lit 420, o1467 P) :: (nat_lit 421, o1468 P) :: (nat_lit 422, o1469 P) :: (nat_lit 423, o1470 P) :: (nat_lit 424, o1471 P) :: (nat_lit 425, o1472 P) :: (nat_lit 426, o1473 P) :: (nat_lit 427, o1474 P) :: (nat_lit 428, o1475 P) :: (nat_lit 429, o1476 P) :: (nat_lit 430, o1477 P) :: (nat_lit 431, o1478 P) :: (nat_lit 432, o1479 P) :: (nat_lit 433, o1480 P) :: (nat_lit 434, o1481 P) :: (nat_lit 435, o1482 P) :: (nat_lit 436, o1483 P) :: (nat_lit 437, o1484 P) :: (nat_lit 438, o1485 P) :: (nat_lit 439, o1486 P) :: (nat_lit 440, o1487 P) :: (nat_lit 441, o1488 P) :: (nat_lit 442, o1489 P) :: (nat_lit 443, o1490 P) :: (nat_lit 444, o1491 P) :: (nat_lit 445, o1492 P) :: (nat_lit 446, o1493 P) :: (nat_lit 447, o1494 P) :: (nat_lit 448, o1495 P) :: (nat_lit 458, o1597 P) :: (nat_lit 459, o1598 P) :: (nat_lit 460, o1599 P) :: (nat_lit 461, o1600 P) :: (nat_lit 462, o1601 P) :: (nat_lit 463, o1602 P) :: (nat_lit 464, o1603 P) :: (nat_lit 465, o1604 P) :: (nat_lit 466, o1605 P) :: (nat_lit 467, o1606 P) :: (nat_lit 468, o1607 P) :: (nat_lit 469, o1608 P) :: (nat_lit 470, o1609 P) :: (nat_lit 471, o1610 P) :: (nat_lit 472, o1611 P) :: (nat_lit 473, o1612 P) :: (nat_lit 474, o1613 P) :: (nat_lit 475, o1614 P) :: (nat_lit 476, o1615 P) :: (nat_lit 477, o1616 P) :: (nat_lit 478, o1617 P) :: (nat_lit 481, o1620 P) :: (nat_lit 482, o1621 P) :: (nat_lit 483, o1622 P) :: (nat_lit 484, o1623 P) :: (nat_lit 485, o1624 P) :: (nat_lit 486, o1625 P) :: (nat_lit 487, o1626 P) :: (nat_lit 488, o1627 P) :: (nat_lit 489, o1628 P) :: (nat_lit 490, o1629 P) :: (nat_lit 491, o1630 P) :: (nat_lit 492, o1631 P) :: (nat_lit 493, o1632 P) :: (nat_lit 494, o1633 P) :: (nat_lit 495, o1634 P) :: (nat_lit 496, o1635 P) :: (nat_lit 497, o1636 P) :: (nat_lit 498, o1637 P) :: (nat_lit 499, o1638 P) :: (nat_lit 500, o1639 P) :: (nat_lit 501, o1640 P) :: (nat_lit 502, o1641 P) :: (nat_lit 503, o1642 P) :: (nat_lit 504, o1643 P) :: (nat_lit 505, o1646 P) :: (nat_lit 506, o1647 P) :: (nat_lit 507, o1648 P) :: (nat_lit 508, o1649 P) :: (nat_lit 509, o1650 P) :: (nat_lit 510, o1651 P) :: (nat_lit 511, o1652 P) :: (nat_lit 512, o1653 P) :: (nat_lit 513, o1654 P) :: (nat_lit 514, o1655 P) :: (nat_lit 515, o1656 P) :: (nat_lit 516, o1657 P) :: (nat_lit 517, o1658 P) :: (nat_lit 518, o1659 P) :: (nat_lit 519, o1660 P) :: (nat_lit 520, o1661 P) :: (nat_lit 521, o1662 P) :: (nat_lit 522, o1663 P) :: (nat_lit 523, o1664 P) :: (nat_lit 524, o1665 P) :: (nat_lit 525, o1666 P) :: (nat_lit 526, o1667 P) :: (nat_lit 527, o1668 P) :: (nat_lit 528, o1669 P) :: (nat_lit 529, o1670 P) :: (nat_lit 530, o1671 P) :: (nat_lit 531, o1672 P) :: (nat_lit 532, o1673 P) :: (nat_lit 533, o1674 P) :: (nat_lit 534, o1675 P) :: (nat_lit 535, o1676 P) :: (nat_lit 536, o1677 P) :: (nat_lit 537, o1678 P) :: (nat_lit 538, o1679 P) :: (nat_lit 539, o1680 P) :: (nat_lit 540, o1681 P) :: (nat_lit 541, o1682 P) :: (nat_lit 542, o1683 P) :: []
noncomputable abbrev XtF (s : Shared) : Bool := xlAt viewF [] s && recOk (RowW.records PySem.Challenge.rw_qd0103_01.row.toRowW) s
theorem k_top (w : World) (os : OsState) : (staticsOk (importedModules pF.main.body) (boot_heap w.params) (h1684 w.params) && namesBound pF (h1684 w.params) && gensDone (sF w os) && laidKept (boot_heap w.params) (h1684 w.params)) = true := by
  rw [Fast.te5923862056798008813]
  kernel_rfl
theorem k_seen (w : World) (os : OsState) : seen ((recsOf viewF).map (·.name)) (ownsOf viewF) [] { sF w os with gens := #[] } = expectedOf viewF := by
  rw [Fast.te5160383126252970620, Fast.te3399658132070893891, Fast.te5991557255702980513]
  kernel_rfl
theorem k_blt (w : World) (os : OsState) : (sF w os).heap.bltView = bltViewBooted := by
  kernel_rfl
theorem k_keys (w : World) (os : OsState) : ((sF w os).heap.keysOk (looseW viewF looseF) ((recsOf viewF).map (·.name)) ((litsOf viewF).map (·.1)) ((clssOf viewF (looseW viewF looseF)).map (·.name)) && (sF w os).heap.accountedOkI (importedModules pF.main.body) && (sF w os).heap.isNs mainGlobals && (sF w os).heap.isNs builtinsNs && tablesOk viewF (sF w os).heap && XtF (sF w os) && (if true then (sF w os).gens.size == 0 else !leftWithCleanup (sF w os).gens)) = true := by
  rw [Fast.te10880121769531294198, Fast.te821141287760084731, Fast.te3399658132070893891, Fast.te7409074990110511671, Fast.te13664370479719496447, Fast.te14722251495701143533, Fast.te5923862056798008813, Fast.te10994771534591457954]
  kernel_rfl
theorem k_tabs (w : World) (os : OsState) : tabsOk viewF (sF w os) = true := by
  rw [Fast.te479339242167458305]
  kernel_rfl
theorem k_pinD (w : World) (os : OsState) : pinSeenD viewF (drecsOf viewF) (sF w os) = pinGoodD (drecsOf viewF) := by
  rw [Fast.te16090120013241838585, Fast.te3247288618530077131]
  kernel_rfl
theorem k_pE (w : World) (os : OsState) : plainSeenE viewF (looseW viewF looseF) (sF w os) = plainGoodE viewF (looseW viewF looseF) := by
  rw [Fast.te2386780881361962483, Fast.te821141287760084731]
  kernel_rfl
theorem k_pD (w : World) (os : OsState) : plainSeenD viewF looseF (sF w os) = plainGoodD viewF looseF := by
  rw [Fast.te11698064438423848299]
  kernel_rfl
theorem k_wide (w : World) (os : OsState) : wideSeen viewF (sF w os) = wideGood viewF := by
  rw [Fast.te7317090234206586261]
  kernel_rfl
theorem k_cls (w : World) (os : OsState) : clsSeenW viewF looseF (sF w os) = clsGoodW viewF looseF := by
  rw [Fast.te7369524293546568484]
  kernel_rfl
theorem k_obs (w : World) (os : OsState) : obsZ asF (sF w os) = valZ KF 543 923 w := by
  kernel_rfl
theorem looks_ (w : World) : (fun os => ((staticsOk (importedModules pF.main.body) (boot_heap w.params) (h1684 w.params) && namesBound pF (h1684 w.params) && gensDone (sF w os) && laidKept (boot_heap w.params) (h1684 w.params)),
    openSeen viewF looseF (importedModules pF.main.body) XtF true (sF w os), obsZ asF (sF w os))) = fun _ => (true, openGood viewF looseF, valZ KF 543 923 w) :=
  funext fun os => looks_pair (k_top w os) (looks_pair (looks_pair (k_seen w os) (looks_pair (k_blt w os) (looks_pair (k_keys w os) (looks_pair (k_tabs w os) (looks_pair (k_pinD w os) (looks_pair (k_pE w os) (looks_pair (k_pD w os) (looks_pair (k_wide w os) (k_cls w os))))))))) (k_obs w os))
theorem leftF : LeftO pF viewF looseF XtF (obsZ asF) (valZ KF 543 923) 20000 :=
  LeftO.of_pieces open_ size_ run_ (by decide) looks_
theorem leftW : LeftO PySem.Challenge.rw_qd0103_01.row.prog viewF looseF XtF (obsZ asF) (valZ KF 543 923) 20000 := by
  have e : PySem.Challenge.rw_qd0103_01.row.prog = pF := pF_is
  rw [e]; exact leftF
end Mine
end
noncomputable section
open PySem PySem.W PySem.W.X PyProof.Rows PySem.Calls
set_option Elab.async false
set_option maxRecDepth 100000
set_option maxHeartbeats 0
set_option linter.unusedVariables false
namespace Mine
noncomputable def rwF : OpenLaw := { prog := pF, name := Str.ofString "law", about := [Str.ofString "read_display"], foot := 10, most := some 63, bound := none, writes := false }
theorem rw_eq : PySem.Challenge.rw_qd0103_01 = rwF :=
  congrArg (fun p => ({ prog := p, name := Str.ofString "law", about := [Str.ofString "read_display"], foot := 10, most := some 63, bound := none, writes := false } : OpenLaw)) pF_is
theorem roads_append (lk : Look) : ∀ l l' : List Stmt, noRoadLSs lk (l ++ l') = (noRoadLSs lk l && noRoadLSs lk l')
  | [], l' => rfl
  | s :: r, l' => by
    show (noRoadLS lk s && noRoadLSs lk (r ++ l')) = ((noRoadLS lk s && noRoadLSs lk r) && noRoadLSs lk l')
    rw [roads_append lk r l', Bool.and_assoc]
theorem road_split (lk : Look) (i : Nat) (l : List Stmt) (h1 : noRoadLSs lk (l.take i) = true) (h2 : noRoadLSs lk ((l.drop i).take 1) = true) (h3 : noRoadLSs lk (l.drop (i + 1)) = true) : noRoadLSs lk l = true := by
  have e : l = l.take i ++ ((l.drop i).take 1 ++ l.drop (i + 1)) := by
    rw [← List.drop_drop, List.take_append_drop, List.take_append_drop]
  rw [e, roads_append, roads_append, h1, h2, h3]; rfl
noncomputable def okC (n : Nat) : Bool := !(Nat.beq n 123) && (!(Nat.beq n 125) && !(Nat.beq n 46))
noncomputable def tlC : Str → List Nat
  | ⟨⟨_ :: l⟩⟩ => l
  | _ => []
noncomputable def RES : Str := n165
theorem res_parts : ∃ l : List Nat, RES = ⟨(32 :: l).toArray⟩ ∧ ∀ c ∈ l, c ≠ 123 ∧ c ≠ 125 ∧ c ≠ 46 := by
  have h : (tlC RES).all okC = true := by kernel_rfl!
  refine ⟨tlC RES, by kernel_rfl!, fun c hc => ?_⟩
  have := List.all_eq_true.mp h c hc
  simp only [okC, Bool.and_eq_true, Bool.not_eq_true'] at this
  exact ⟨Nat.ne_of_beq_eq_false this.1, Nat.ne_of_beq_eq_false this.2.1, Nat.ne_of_beq_eq_false this.2.2⟩
theorem not_in {l : List Nat} {x : Str} (e : x = ⟨(32 :: l).toArray⟩) (ns : List Str) (h : (ns.all fun n => n.cps.toList.head? != some 32) = true) : ns.contains x = false := by
  cases q : ns.contains x with
  | false => rfl
  | true =>
    have := List.all_eq_true.mp h x (List.contains_iff_mem.mp q)
    rw [e] at this
    simp at this
theorem res_road : roadStr RES = false := by
  obtain ⟨l, e, h⟩ := res_parts
  unfold roadStr
  rw [e]
  have h1 : ((32 :: l).toArray.any fun c => c == 123 || c == 125) = false := by
    rw [Bool.eq_false_iff]
    intro q
    rw [List.any_toArray, List.any_eq_true] at q
    obtain ⟨c, hc, q⟩ := q
    rcases List.mem_cons.mp hc with rfl | hc
    · simp at q
    · have := h c hc; simp at q; omega
  have h2 : ((32 :: l).toArray.any fun c => c == 46) = false := by
    rw [Bool.eq_false_iff]
    intro q
    rw [List.any_toArray, List.any_eq_true] at q
    obtain ⟨c, hc, q⟩ := q
    rcases List.mem_cons.mp hc with rfl | hc
    · simp at q
    · have := h c hc; simp at q; omega
  rw [h1, h2]; rfl
theorem res_open : RES.opensWith "__" = false := by
  obtain ⟨l, e, _⟩ := res_parts
  rw [e]
  have : (Str.ofString "__") = ⟨#[95, 95]⟩ := by kernel_rfl!
  rw [this]
  unfold Str.opensWith
  simp
theorem str_ok (lk : Look) (h4 : lk.but = none) (h6 : lk.foot = none) : lk.str RES = true := by
  obtain ⟨l, e, _⟩ := res_parts
  have h2 : frameAttrs.contains RES = false := not_in e _ (by k_qdec)
  have h5 : (["__dict__", "__getstate__", "__getattribute__", "__reduce__", "__reduce_ex__"] : List Str).contains RES = false := not_in e _ (by k_qdec)
  unfold Look.str Look.word attrL
  rw [res_road, h2, res_open, h4, h5, h6]
  simp
theorem st44 : ∃ n p1 k p2 p3, (pF.main.body.drop 44).take 1 = [Stmt.Assign [Expr.Name n p1] (Expr.Constant (Const.str RES) k p2) p3] ∧ Str.ofString "RESERVED" = n := by
  refine ⟨⟨⟨[82, 69, 83, 69, 82, 86, 69, 68]⟩⟩, ?_⟩
  exact ⟨⟨_, _, _, _⟩, _, ⟨_, _, _, _⟩, ⟨_, _, _, _⟩, rfl, by kernel_rfl!⟩
theorem road44 (lk : Look) (h4 : lk.but = none) (h6 : lk.foot = none) (h : ∀ p, noRoadL lk (Expr.Name (Str.ofString "RESERVED") p) = true) : noRoadLSs lk ((pF.main.body.drop 44).take 1) = true := by
  obtain ⟨n, p1, k, p2, p3, e, rfl⟩ := st44
  rw [e]
  show ((lk.stores [Expr.Name (Str.ofString "RESERVED") p1] && (noRoadL lk (Expr.Name (Str.ofString "RESERVED") p1) && true) && lk.str RES) && true) = true
  rw [h p1, str_ok lk h4 h6]
  unfold Look.stores
  rw [h6]; rfl
theorem lk_is (b : Bool) (l : List Str) (hb : b = false) (hl : l.isEmpty = true) (ss : List Stmt) (h : noRoadLSs { strict := false, foot := none, bare := [] } ss = true) : noRoadLSs { strict := b, foot := none, bare := l } ss = true := by
  rw [hb, List.isEmpty_iff.mp hl]; exact h
theorem not_of {b : Bool} (h : (!b) = true) : b = false := by simpa using h
theorem said : PySem.Challenge.rw_qd0103_01.wellSaid = true := by
  rw [rw_eq]
  unfold OpenLaw.wellSaid OpenRow.wellSaid OpenRow.partSaid looksOpen
  repeat' (with_reducible refine look_both ?_ ?_)
  all_goals first
    | (with_reducible show noRoadLSs _ (Module.body _) = true
       with_reducible refine lk_is _ _ (not_of ?s) ?b _ (road_split _ 44 _ ?h1 ?h2 ?h3)
       (case s => k_qdec)
       (case b => k_qdec)
       (case h1 => k_qdec)
       (case h3 => k_qdec)
       (case h2 => (refine road44 _ rfl rfl fun p => ?_; show (Look.name _ _ = true); k_qdec)))
    | k_qdec
end Mine
end
noncomputable section
open PySem PySem.W PySem.W.X PyProof.Rows PySem.Calls
set_option Elab.async false
set_option maxRecDepth 100000
set_option maxHeartbeats 0
set_option linter.unusedVariables false
namespace Mine
theorem hok : (chainsOk viewF && opensWell pF && (frees rwF.row.toRowW && rwF.row.within.isEmpty)) = true := by decide +kernel
theorem head {d : DefRec} {kwd : List (Str × PySem.Expr)} (hd : defOf viewF PySem.Challenge.rw_qd0103_01.row.name = some (d, kwd)) (hp : pF.theDef PySem.Challenge.rw_qd0103_01.row.name = some (d.params, d.body, d.scope)) (hk : kwWritten? d.params.kwonlyargs d.params.kw_defaults = some kwd)
    (walk : WalkX viewF looseF (XL viewF []) (obsZ asF) (valZ KF 543 923) PySem.Challenge.rw_qd0103_01.row.toRowW d kwd fun f vs => PySem.call f vs) : PySem.Challenge.rw_qd0103_01.row.Holds := by
  refine holds_openX (q := viewF) (loose := looseF) (Xt := XtF) (XP := XL viewF []) (Yf := obsZ asF) (Ya := valZ KF 543 923) (N := 20000) leftW (fun s e => xl_of s (Bool.and_eq_true_iff.mp e).1) XL.keeps hd ?_ hk (fun s e => recFacts_of (Bool.and_eq_true_iff.mp e).2) rfl (row_said said) ?_ ⟨rfl, rfl, rfl, rfl, rfl, by decide +kernel⟩ (by w_witness2) walk
  · show PySem.Challenge.pw_qd0103_01.theDef _ = _
    rw [pF_is]; exact hp
  · rw [rw_eq]; exact hok
end Mine
end
noncomputable section
open PySem PySem.W PySem.W.X PyProof.Rows PySem.Calls
set_option Elab.async false
set_option maxRecDepth 100000
namespace Mine
/-- the head's objects but the tables of code -/
noncomputable def KN (P : Params) : Frag := (nat_lit 0, boot_o_0 P) :: (nat_lit 1, boot_o_1 P) :: (nat_lit 2, o1043 P) :: (nat_lit 3, o1644 P) :: (nat_lit 4, boot_o_4 P) :: (nat_lit 5, boot_o_5 P) :: (nat_lit 6, boot_o_6 P) :: (nat_lit 7, boot_o_7 P) :: (nat_lit 9, boot_o_9 P) :: (nat_lit 10, boot_o_10 P) :: (nat_lit 11, o1037 P) :: (nat_lit 13, o1039 P) :: (nat_lit 14, o1040 P) :: (nat_lit 15, o1046 P) :: (nat_lit 17, o1048 P) :: (nat_lit 18, o1049 P) :: (nat_lit 19, o1050 P) :: (nat_lit 20, o1051 P) :: (nat_lit 21, o1052 P) :: (nat_lit 22, o1053 P) :: (nat_lit 29, o1060 P) :: (nat_lit 30, o1061 P) :: (nat_lit 31, o1062 P) :: (nat_lit 33, o1064 P) :: (nat_lit 34, o1065 P) :: (nat_lit 35, o1066 P) :: (nat_lit 36, o1067 P) :: (nat_lit 37, o1068 P) :: (nat_lit 38, o1069 P) :: (nat_lit 40, o1071 P) :: (nat_lit 41, o1072 P) :: (nat_lit 42, o1073 P) :: (nat_lit 43, o1074 P) :: (nat_lit 44, o1075 P) :: (nat_lit 45, o1076 P) :: (nat_lit 46, o1077 P) :: (nat_lit 47, o1099 P) :: (nat_lit 48, o1079 P) :: (nat_lit 51, o1085 P) :: (nat_lit 58, o1092 P) :: (nat_lit 59, o1093 P) :: (nat_lit 60, o1094 P) :: (nat_lit 63, o1100 P) :: (nat_lit 70, o1107 P) :: (nat_lit 71, o1108 P) :: (nat_lit 72, o1109 P) :: (nat_lit 75, o1112 P) :: (nat_lit 77, o1114 P) :: (nat_lit 78, o1115 P) :: (nat_lit 79, o1116 P) :: (nat_lit 80, o1117 P) :: (nat_lit 81, o1118 P) :: (nat_lit 82, o1119 P) :: (nat_lit 83, o1120 P) :: (nat_lit 85, o1122 P) :: (nat_lit 86, o1123 P) :: (nat_lit 87, o1124 P) :: (nat_lit 88, o1125 P) :: (nat_lit 89, o1126 P) :: (nat_lit 90, o1127 P) :: (nat_lit 92, o1129 P) :: (nat_lit 93, o1130 P) :: (nat_lit 94, o1131 P) :: (nat_lit 95, o1132 P) :: (nat_lit 96, o1133 P) :: (nat_lit 97, o1134 P) :: (nat_lit 99, o1136 P) :: (nat_lit 100, o1137 P) :: (nat_lit 101, o1138 P) :: (nat_lit 102, o1139 P) :: (nat_lit 103, o1140 P) :: (nat_lit 104, o1141 P) :: (nat_lit 106, o1143 P) :: (nat_lit 107, o1144 P) :: (nat_lit 108, o1145 P) :: (nat_lit 109, o1146 P) :: (nat_lit 110, o1147 P) :: (nat_lit 111, o1150 P) :: (nat_lit 113, o1152 P) :: (nat_lit 114, o1153 P) :: (nat_lit 115, o1154 P) :: (nat_lit 116, o1155 P) :: (nat_lit 117, o1156 P) :: (nat_lit 118, o1157 P) :: (nat_lit 120, o1159 P) :: (nat_lit 121, o1160 P) :: (nat_lit 122, o1161 P) :: (nat_lit 123, o1162 P) :: (nat_lit 124, o1163 P) :: (nat_lit 125, o1164 P) :: (nat_lit 127, o1166 P) :: (nat_lit 128, o1167 P) :: (nat_lit 129, o1168 P) :: (nat_lit 130, o1169 P) :: (nat_lit 131, o1170 P) :: (nat_lit 132, o1171 P) :: (nat_lit 133, o1172 P) :: (nat_lit 135, o1174 P) :: (nat_lit 136, o1175 P) :: (nat_lit 137, o1176 P) :: (nat_lit 138, o1177 P) :: (nat_lit 139, o1178 P) :: (nat_lit 140, o1179 P) :: (nat_lit 142, o1181 P) :: (nat_lit 143, o1182 P) :: (nat_lit 144, o1183 P) :: (nat_lit 145, o1184 P) :: (nat_lit 146, o1185 P) :: (nat_lit 147, o1186 P) :: (nat_lit 149, o1188 P) :: (nat_lit 150, o1189 P) :: (nat_lit 151, o1190 P) :: (nat_lit 152, o1191 P) :: (nat_lit 153, o1192 P) :: (nat_lit 154, o1197 P) :: (nat_lit 156, o1199 P) :: (nat_lit 157, o1200 P) :: (nat_lit 158, o1201 P) :: (nat_lit 159, o1202 P) :: (nat_lit 160, o1203 P) :: (nat_lit 161, o1204 P) :: (nat_lit 163, o1206 P) :: (nat_lit 164, o1207 P) :: (nat_lit 165, o1208 P) :: (nat_lit 166, o1209 P) :: (nat_lit 167, o1210 P) :: (nat_lit 168, o1211 P) :: (nat_lit 170, o1213 P) :: (nat_lit 171, o1214 P) :: (nat_lit 172, o1215 P) :: (nat_lit 173, o1216 P) :: (nat_lit 174, o1217 P) :: (nat_lit 175, o1218 P) :: (nat_lit 177, o1220 P) :: (nat_lit 178, o1221 P) :: (nat_lit 179, o1222 P) :: (nat_lit 180, o1223 P) :: (nat_lit 181, o1224 P) :: (nat_lit 182, o1225 P) :: (nat_lit 184, o1227 P) :: (nat_lit 185, o1228 P) :: (nat_lit 186, o1229 P) :: (nat_lit 187, o1230 P) :: (nat_lit 188, o1231 P) :: (nat_lit 189, o1232 P) :: (nat_lit 191, o1234 P) :: (nat_lit 192, o1235 P) :: (nat_lit 193, o1236 P) :: (nat_lit 194, o1237 P) :: (nat_lit 195, o1238 P) :: (nat_lit 196, o1239 P) :: (nat_lit 198, o1241 P) :: (nat_lit 199, o1242 P) :: (nat_lit 200, o1243 P) :: (nat_lit 201, o1244 P) :: (nat_lit 202, o1245 P) :: (nat_lit 203, o1246 P) :: (nat_lit 205, o1248 P) :: (nat_lit 206, o1249 P) :: (nat_lit 207, o1250 P) :: (nat_lit 208, o1251 P) :: (nat_lit 209, o1252 P) :: (nat_lit 210, o1253 P) :: (nat_lit 212, o1255 P) :: (nat_lit 213, o1256 P) :: (nat_lit 214, o1257 P) :: (nat_lit 215, o1258 P) :: (nat_lit 216, o1259 P) :: (nat_lit 217, o1260 P) :: (nat_lit 219, o1262 P) :: (nat_lit 220, o1263 P) :: (nat_lit 221, o1264 P) :: (nat_lit 222, o1265 P) :: (nat_lit 223, o1266 P) :: (nat_lit 224, o1267 P) :: (nat_lit 226, o1269 P) :: (nat_lit 227, o1270 P) :: (nat_lit 228, o1271 P) :: (nat_lit 229, o1272 P) :: (nat_lit 230, o1273 P) :: (nat_lit 231, o1274 P) :: (nat_lit 233, o1276 P) :: (nat_lit 234, o1277 P) :: (nat_lit 235, o1278 P) :: (nat_lit 236, o1279 P) :: (nat_lit 237, o1280 P) :: (nat_lit 238, o1283 P) :: (nat_lit 240, o1285 P) :: (nat_lit 241, o1286 P) :: (nat_lit 242, o1287 P) :: (nat_lit 243, o1288 P) :: (nat_lit 244, o1289 P) :: (nat_lit 245, o1290 P) :: (nat_lit 247, o1292 P) :: (nat_lit 248, o1293 P) :: (nat_lit 249, o1294 P) :: (nat_lit 250, o1295 P) :: (nat_lit 251, o1296 P) :: (nat_lit 252, o1297 P) :: (nat_lit 254, o1299 P) :: (nat_lit 255, o1300 P) :: (nat_lit 256, o1301 P) :: (nat_lit 257, o1302 P) :: (nat_lit 258, o1303 P) :: (nat_lit 259, o1304 P) :: (nat_lit 261, o1306 P) :: (nat_lit 262, o1307 P) :: (nat_lit 263, o1308 P) :: (nat_lit 264, o1309 P) :: (nat_lit 265, o1310 P) :: (nat_lit 266, o1311 P) :: (nat_lit 268, o1313 P) :: (nat_lit 269, o1314 P) :: (nat_lit 270, o1315 P) :: (nat_lit 271, o1316 P) :: (nat_lit 272, o1317 P) :: (nat_lit 273, o1318 P) :: (nat_lit 275, o1320 P) :: (nat_lit 276, o1321 P) :: (nat_lit 277, o1322 P) :: (nat_lit 285, o1332 P) :: (nat_lit 286, o1333 P) :: (nat_lit 288, o1335 P) :: (nat_lit 289, o1336 P) :: (nat_lit 290, o1337 P) :: (nat_lit 291, o1338 P) :: (nat_lit 292, o1339 P) :: (nat_lit 293, o1340 P) :: (nat_lit 294, o1341 P) :: (nat_lit 296, o1343 P) :: (nat_lit 297, o1344 P) :: (nat_lit 298, o1345 P) :: (nat_lit 299, o1346 P) :: (nat_lit 300, o1347 P) :: (nat_lit 301, o1348 P) :: (nat_lit 303, o1350 P) :: (nat_lit 304, o1351 P) :: (nat_lit 305, o1352 P) :: (nat_lit 306, o1353 P) :: (nat_lit 307, o1354 P) :: (nat_lit 308, o1355 P) :: (nat_lit 310, o1357 P) :: (nat_lit 311, o1358 P) :: (nat_lit 312, o1359 P) :: (nat_lit 313, o1360 P) :: (nat_lit 314, o1361 P) :: (nat_lit 315, o1362 P) :: (nat_lit 317, o1364 P) :: (nat_lit 318, o1365 P) :: (nat_lit 319, o1366 P) :: (nat_lit 320, o1367 P) :: (nat_lit 321, o1368 P) :: (nat_lit 322, o1369 P) :: (nat_lit 323, o1370 P) :: (nat_lit 325, o1372 P) :: (nat_lit 326, o1373 P) :: (nat_lit 327, o1374 P) :: (nat_lit 328, o1375 P) :: (nat_lit 329, o1376 P) :: (nat_lit 330, o1377 P) :: (nat_lit 332, o1379 P) :: (nat_lit 333, o1380 P) :: (nat_lit 334, o1381 P) :: (nat_lit 335, o1382 P) :: (nat_lit 336, o1383 P) :: (nat_lit 337, o1384 P) :: (nat_lit 339, o1386 P) :: (nat_lit 340, o1387 P) :: (nat_lit 341, o1388 P) :: (nat_lit 342, o1389 P) :: (nat_lit 343, o1390 P) :: (nat_lit 344, o1391 P) :: (nat_lit 346, o1393 P) :: (nat_lit 347, o1394 P) :: (nat_lit 348, o1395 P) :: (nat_lit 349, o1396 P) :: (nat_lit 350, o1397 P) :: (nat_lit 351, o1398 P) :: (nat_lit 353, o1400 P) :: (nat_lit 354, o1401 P) :: (nat_lit 355, o1402 P) :: (nat_lit 356, o1403 P) :: (nat_lit 357, o1404 P) :: (nat_lit 358, o1405 P) :: (nat_lit 360, o1407 P) :: (nat_lit 361, o1408 P) :: (nat_lit 362, o1409 P) :: (nat_lit 363, o1410 P) :: (nat_lit 364, o1411 P) :: (nat_lit 365, o1412 P) :: (nat_lit 366, o1413 P) :: (nat_lit 368, o1415 P) :: (nat_lit 369, o1416 P) :: (nat_lit 370, o1417 P) :: (nat_lit 371, o1418 P) :: (nat_lit 372, o1419 P) :: (nat_lit 373, o1420 P) :: (nat_lit 375, o1422 P) :: (nat_lit 376, o1423 P) :: (nat_lit 377, o1424 P) :: (nat_lit 378, o1425 P) :: (nat_lit 379, o1426 P) :: (nat_lit 380, o1427 P) :: (nat_lit 382, o1429 P) :: (nat_lit 383, o1430 P) :: (nat_lit 384, o1431 P) :: (nat_lit 385, o1432 P) :: (nat_lit 386, o1433 P) :: (nat_lit 387, o1434 P) :: (nat_lit 388, o1435 P) :: (nat_lit 390, o1437 P) :: (nat_lit 391, o1438 P) :: (nat_lit 392, o1439 P) :: (nat_lit 393, o1440 P) :: (nat_lit 394, o1441 P) :: (nat_lit 395, o1442 P) :: (nat_lit 397, o1444 P) :: (nat_lit 398, o1445 P) :: (nat_lit 399, o1446 P) :: (nat_lit 400, o1447 P) :: (nat_lit 401, o1448 P) :: (nat_lit 402, o1449 P) :: (nat_lit 404, o1451 P) :: (nat_lit 405, o1452 P) :: (nat_lit 406, o1453 P) :: (nat_lit 407, o1454 P) :: (nat_lit 408, o1455 P) :: (nat_lit 409, o1456 P) :: (nat_lit 411, o1458 P) :: (nat_lit 412, o1459 P) :: (nat_lit 413, o1460 P) :: (nat_lit 414, o1461 P) :: (nat_lit 415, o1462 P) :: (nat_lit 416, o1463 P) :: (nat_lit 418, o1465 P) :: (nat_lit 419, o1466 P) :: (nat_lit 420, o1467 P) :: (nat_lit 421, o1468 P) :: (nat_lit 422, o1469 P) :: (nat_lit 423, o1470 P) :: (nat_lit 425, o1472 P) :: (nat_lit 426, o1473 P) :: (nat_lit 427, o1474 P) :: (nat_lit 428, o1475 P) :: (nat_lit 429, o1476 P) :: (nat_lit 430, o1477 P) :: (nat_lit 432, o1479 P) :: (nat_lit 433, o1480 P) :: (nat_lit 434, o1481 P) :: (nat_lit 435, o1482 P) :: (nat_lit 436, o1483 P) :: (nat_lit 437, o1484 P) :: (nat_lit 439, o1486 P) :: (nat_lit 440, o1487 P) :: (nat_lit 441, o1488 P) :: (nat_lit 442, o1489 P) :: (nat_lit 443, o1490 P) :: (nat_lit 444, o1491 P) :: (nat_lit 445, o1492 P) :: (nat_lit 446, o1493 P) :: (nat_lit 447, o1494 P) :: (nat_lit 448, o1495 P) :: (nat_lit 458, o1597 P) :: (nat_lit 459, o1598 P) :: (nat_lit 460, o1599 P) :: (nat_lit 462, o1601 P) :: (nat_lit 463, o1602 P) :: (nat_lit 464, o1603 P) :: (nat_lit 465, o1604 P) :: (nat_lit 466, o1605 P) :: (nat_lit 467, o1606 P) :: (nat_lit 469, o1608 P) :: (nat_lit 470, o1609 P) :: (nat_lit 471, o1610 P) :: (nat_lit 472, o1611 P) :: (nat_lit 473, o1612 P) :: (nat_lit 474, o1613 P) :: (nat_lit 475, o1614 P) :: (nat_lit 476, o1615 P) :: (nat_lit 477, o1616 P) :: (nat_lit 478, o1617 P) :: (nat_lit 481, o1620 P) :: (nat_lit 483, o1622 P) :: (nat_lit 484, o1623 P) :: (nat_lit 485, o1624 P) :: (nat_lit 486, o1625 P) :: (nat_lit 488, o1627 P) :: (nat_lit 489, o1628 P) :: (nat_lit 490, o1629 P) :: (nat_lit 491, o1630 P) :: (nat_lit 492, o1631 P) :: (nat_lit 493, o1632 P) :: (nat_lit 495, o1634 P) :: (nat_lit 496, o1635 P) :: (nat_lit 497, o1636 P) :: (nat_lit 498, o1637 P) :: (nat_lit 499, o1638 P) :: (nat_lit 500, o1639 P) :: (nat_lit 502, o1641 P) :: (nat_lit 503, o1642 P) :: (nat_lit 504, o1643 P) :: (nat_lit 505, o1646 P) :: (nat_lit 507, o1648 P) :: (nat_lit 508, o1649 P) :: (nat_lit 509, o1650 P) :: (nat_lit 510, o1651 P) :: (nat_lit 512, o1653 P) :: (nat_lit 513, o1654 P) :: (nat_lit 514, o1655 P) :: (nat_lit 515, o1656 P) :: (nat_lit 516, o1657 P) :: (nat_lit 517, o1658 P) :: (nat_lit 519, o1660 P) :: (nat_lit 520, o1661 P) :: (nat_lit 521, o1662 P) :: (nat_lit 522, o1663 P) :: (nat_lit 523, o1664 P) :: (nat_lit 524, o1665 P) :: (nat_lit 526, o1667 P) :: (nat_lit 527, o1668 P) :: (nat_lit 528, o1669 P) :: (nat_lit 529, o1670 P) :: (nat_lit 530, o1671 P) :: (nat_lit 531, o1672 P) :: (nat_lit 533, o1674 P) :: (nat_lit 534, o1675 P) :: (nat_lit 535, o1676 P) :: (nat_lit 536, o1677 P) :: (nat_lit 537, o1678 P) :: (nat_lit 538, o1679 P) :: (nat_lit 540, o1681 P) :: (nat_lit 541, o1682 P) :: (nat_lit 542, o1683 P) :: []
noncomputable def keepB {α : Type} : List Bool → List α → List α
  | true :: m, x :: l => x :: keepB m l
  | false :: m, _ :: l => keepB m l
  | _, _ => []
theorem KN_is (P : Params) : KN P = keepB [true, true, true, true, true, true, true, true, false, true, true, true, false, true, true, true, false, true, true, true, true, true, true, true, true, true, false, true, true, true, true, true, true, false, true, true, true, true, true, true, true, true, true, true, true, true, true, true, true, true, true, true, false, true, true, true, true, true, true, true, false, true, true, true, true, true, true, false, true, true, true, true, true, true, false, true, true, true, true, true, true, false, true, true, true, true, true, true, false, true, true, true, true, true, true, false, true, true, true, true, true, true, false, true, true, true, true, true, true, true, false, true, true, true, true, true, true, false, true, true, true, true, true, true, false, true, true, true, true, true, true, false, true, true, true, true, true, true, false, true, true, true, true, true, true, false, true, true, true, true, true, true, false, true, true, true, true, true, true, false, true, true, true, true, true, true, false, true, true, true, true, true, true, false, true, true, true, true, true, true, false, true, true, true, true, true, true, false, true, true, true, true, true, true, false, true, true, true, true, true, true, false, true, true, true, true, true, true, false, true, true, true, true, true, true, false, true, true, true, true, true, true, false, true, true, true, true, true, true, false, true, true, true, true, true, true, false, true, true, true, true, true, true, false, true, true, true, true, true, true, false, true, true, true, true, true, false, true, true, true, true, true, true, true, false, true, true, true, true, true, true, false, true, true, true, true, true, true, false, true, true, true, true, true, true, false, true, true, true, true, true, true, true, false, true, true, true, true, true, true, false, true, true, true, true, true, true, false, true, true, true, true, true, true, false, true, true, true, true, true, true, false, true, true, true, true, true, true, false, true, true, true, true, true, true, true, false, true, true, true, true, true, true, false, true, true, true, true, true, true, false, true, true, true, true, true, true, true, false, true, true, true, true, true, true, false, true, true, true, true, true, true, false, true, true, true, true, true, true, false, true, true, true, true, true, true, false, true, true, true, true, true, true, false, true, true, true, true, true, true, false, true, true, true, true, true, true, false, true, true, true, true, true, true, true, true, true, true, true, true, true, false, true, true, true, true, true, true, false, true, true, true, true, true, true, true, true, true, true, true, false, true, true, true, true, false, true, true, true, true, true, true, false, true, true, true, true, true, true, false, true, true, true, true, false, true, true, true, true, false, true, true, true, true, true, true, false, true, true, true, true, true, true, false, true, true, true, true, true, true, false, true, true, true, true, true, true, false, true, true, true] (KF P) := rfl
theorem allIn_keepB {h : Heap} : ∀ (m : List Bool) (K : Frag), AllIn h K → AllIn h (keepB m K)
  | [], [], _ => trivial
  | [], _ :: _, _ => trivial
  | true :: _, [], _ => trivial
  | false :: _, [], _ => trivial
  | true :: m, _ :: K, x => ⟨x.1, allIn_keepB m K x.2⟩
  | false :: m, _ :: K, x => allIn_keepB m K x.2
theorem allIn_keeps {h h' : Heap} (k : ∀ b o, h.get? b = some o → h'.get? b = some o) : ∀ {K : Frag}, AllIn h K → AllIn h' K
  | [], _ => trivial
  | _ :: _, x => ⟨k _ _ x.1, allIn_keeps k x.2⟩
theorem allIn_in {h : Heap} : ∀ {K : Frag}, AllIn h K → K.In h
  | [], _, _, _, e => nomatch e
  | (b, y) :: K, x, a, o, e => by
    rw [List.lookup_cons] at e
    cases hb : a == b with
    | true => rw [hb] at e; cases e; rw [eq_of_beq hb]; exact x.1
    | false => rw [hb] at e; exact allIn_in x.2 a o e
theorem KN_in {h : Heap} {P : Params} (x : AllIn h (KF P)) : (KN P).In h := by
  rw [KN_is]; exact allIn_in (allIn_keepB _ _ x)
theorem KN_noTabs (P : Params) : noTabs (KN P) = true := by kernel_rfl!
end Mine
end
noncomputable section
open PySem PySem.W PyProof.Rows PySem.Calls
set_option Elab.async false
namespace Mine
structure Gl where
  w : World
  loose : List Str
  mean : ExcName → Option Value
  mg : Str → Option Value
  mb : Str → Option Value
noncomputable abbrev News' := List (Addr × Obj)
/-- what is written at the reader's dict, but for the place -/
structure RP where
  dr : Addr
  tl : Addr
  nm : Addr
  sh : Addr
  h1 : Int
  h2 : Int
  h3 : Int
  h4 : Int
  k1 : Tok
  k2 : Tok
  k3 : Tok
  k4 : Tok

noncomputable abbrev rdD (q : RP) (p : Int) (pt : Tok) : Obj :=
  dictOf [⟨q.h1, .str (Str.ofString "tokens") q.k1, .ref q.tl⟩, ⟨q.h2, .str (Str.ofString "at") q.k2, .int p pt⟩, ⟨q.h3, .str (Str.ofString "named") q.k3, .ref q.nm⟩, ⟨q.h4, .str (Str.ofString "shared") q.k4, .ref q.sh⟩] 4
structure TP where
  td : Addr
  h1 : Int
  h2 : Int
  h3 : Int
  h4 : Int
  k1 : Tok
  k2 : Tok
  k3 : Tok
  k4 : Tok
  kt : Tok
  wt : Tok
  atv : Value

noncomputable abbrev tokD (q : TP) (kd wo : Str) : Obj :=
  dictOf [⟨q.h1, .str (Str.ofString "kind") q.k1, .str kd q.kt⟩, ⟨q.h2, .str (Str.ofString "worth") q.k2, .str wo q.wt⟩, ⟨q.h3, .str (Str.ofString "at") q.k3, q.atv⟩, ⟨q.h4, .str (Str.ofString "is_in_a") q.k4, .bool false⟩] 4
structure TokAt (news : News') (t : Addr) (q : TP) (kd wo : Str) : Prop where
  inst : (t, instObj 476 q.td) ∈ news
  dict : (q.td, tokD q kd wo) ∈ news
noncomputable abbrev Toks := List (Str × Str)
noncomputable abbrev lstO (its : Array Value) (n : Nat) : Obj := ⟨.type "list", none, .seq its n, #[]⟩
/-- where the one block without a name is written that the reading may meet -/
noncomputable abbrev lamPos : Pos := { line := 174, col := 36, endLine := 174, endCol := 76 }
/-- the table of the code that read_primary's block grows, empty or with that block in it -/
noncomputable def TabOk (news : News') : Prop := ∃ ps : Array Value, (232, tabObj ps) ∈ news ∧ TriplesOk ps.toList ∧ (codeAmong lamPos ps.toList = none ∨ ∃ c, codeAmong lamPos ps.toList = some (.ref c))
structure RS (news : News') (r : Addr) (q : RP) (ts : Toks) (p : Nat) (pt : Tok) : Prop where
  inst : (r, instObj 446 q.dr) ∈ news
  dict : (q.dr, rdD q p pt) ∈ news
  list : ∃ (its : Array Value) (n : Nat), (q.tl, lstO its n) ∈ news ∧ its.size = ts.length ∧ ∀ (i : Nat) (k w : Str), ts[i]? = some (k, w) → ∃ t tp, its[i]? = some (.ref t) ∧ TokAt news t tp k w
  nodup : (news.map (·.1)).Nodup
  small : ts.length < 4096
  here : p ≤ ts.length
  tab : TabOk news

theorem item_at {prog : Program} {w : World} {A : Around} {E : Value → Shared → Prop} {s : Shared} {value slice : PySem.Expr} {l : Addr} {its : Array Value} {k : Int} {u : Tok} {v : Value} {Q : Value → Shared → Prop}
    (hl : s.heap.IsList l its) (h0 : 0 ≤ k) (hhi : k < 2 ^ 63) (hx : its[k.toNat]? = some v) (h : Q v s)
    (hs : subscripted slice false (.ref l) (.int k u) = operate [.ref l, .int k u] (getItem (.ref l) (.int k u)) := by with_unfolding_all rfl) :
    wpAny (model prog w) A (subscriptTail value slice (.ref l) (.int k u)) Q E s :=
  tail_any hl.typeIs slot_list_getitem.lookup (wpAny_getItem_list hl h0 hhi (by simpa using hx) h) hs
theorem len_at {prog : Program} {w : World} {A : Around} {E : Value → Shared → Prop} {s : Shared} {l : Addr} {its : Array Value} {Q : Value → Shared → Prop}
    (hl : s.heap.IsList l its) (hf : (its.size : Int) < 2 ^ 63) (h : Q (.int its.size (s.toks + 1)) { s with toks := s.toks + 1 + 1 }) : wpAny (model prog w) A (call (.builtin "len") [.ref l]) Q E s :=
  call_len_list hl hf h
theorem isList_news {h₀ h : Heap} {L l : Addr} {news : News'} {its : Array Value} {n : Nat} (N : News h₀ L h news) (hm : (l, lstO its n) ∈ news) : h.IsList l its := ⟨_, (N _ hm).1, rfl, n, rfl⟩

noncomputable def Con (G : Gl) (f : Addr) (vs : List Value) (news : News') (D U : Nat) (post : News' → Value → Prop) : Prop :=
  ∀ (dp un : Nat) (gd : Option (List Code)) (cn : Str) (cs : Scope) (a : Addr) (ccd : Value) (cl : List (Str × Addr)) (outer : List Env) (A₀ : Around) (base h₀ : Heap) (L : Addr) (m : Str → Option Value) (s : Shared)
    (Q E : Value → Shared → Prop),
    Below A₀ base outer h₀ → Fr h₀ L s.heap m → (KN G.w.params).In h₀ → News h₀ L s.heap news → Top topProg G.loose G.mean G.mg G.mb h₀ → cs.kind = .function → dp + D < recursionLimit → un + U < cLine →
    (∀ r news' h' tk', Fr h₀ L h' m → News h₀ L h' news' → post news' r → Q r { s with heap := h', toks := tk' }) →
    wpAny (model PySem.Challenge.rw_qd0103_01.prog G.w) (ktrTop dp un gd cn cs L a ccd cl outer) (call (.ref f) vs) Q E s
theorem con_use {G : Gl} {f : Addr} {vs : List Value} {news : News'} {D U : Nat} {post : News' → Value → Prop}
    {dp un : Nat} {gd : Option (List Code)} {cn : Str} {cs : Scope} {a : Addr} {ccd : Value} {cl : List (Str × Addr)} {outer : List Env} {A₀ : Around} {base h₀ : Heap} {L : Addr} {m : Str → Option Value} {s : Shared} {Q E : Value → Shared → Prop}
    (C : Con G f vs news D U post)
    (B : Below A₀ base outer h₀) (F : Fr h₀ L s.heap m) (X : (KN G.w.params).In h₀) (N : News h₀ L s.heap news) (T : Top topProg G.loose G.mean G.mg G.mb h₀) (hk : cs.kind = .function) (hd : dp + D < recursionLimit) (hu : un + U < cLine)
    (ret : ∀ r news' h' tk', Fr h₀ L h' m → News h₀ L h' news' → post news' r → Q r { s with heap := h', toks := tk' }) :
    wpAny (model PySem.Challenge.rw_qd0103_01.prog G.w) (ktrTop dp un gd cn cs L a ccd cl outer) (call (.ref f) vs) Q E s := C _ _ _ _ _ _ _ _ _ _ _ _ _ _ _ _ _ B F X N T hk hd hu ret
/-- a frame of ours: what a call from it wants -/
noncomputable def Site (A : Around) (L : Addr) (h₀ : Heap) (D0 U0 : Nat) : Prop :=
  ∃ (dp un : Nat) (gd : Option (List Code)) (cn : Str) (cs : Scope) (a : Addr) (ccd : Value) (cl : List (Str × Addr)) (outer : List Env) (A₀ : Around) (base : Heap),
    A = ktrTop dp un gd cn cs L a ccd cl outer ∧ Below A₀ base outer h₀ ∧ cs.kind = .function ∧ dp + D0 < recursionLimit + 1 ∧ un + U0 < cLine + 3
theorem con_site {G : Gl} {f : Addr} {vs : List Value} {news : News'} {D U D0 U0 : Nat} {post : News' → Value → Prop}
    {A : Around} {h₀ : Heap} {L : Addr} {m : Str → Option Value} {s : Shared} {Q E : Value → Shared → Prop}
    (C : Con G f vs news D U post) (B : Site A L h₀ D0 U0) (F : Fr h₀ L s.heap m) (X : (KN G.w.params).In h₀) (N : News h₀ L s.heap news) (T : Top topProg G.loose G.mean G.mg G.mb h₀) (hd : Nat.ble (D + 1) D0 = true) (hu : Nat.ble (U + 3) U0 = true)
    (ret : ∀ r news' h' tk', Fr h₀ L h' m → News h₀ L h' news' → post news' r → Q r { s with heap := h', toks := tk' }) : wpAny (model PySem.Challenge.rw_qd0103_01.prog G.w) A (call (.ref f) vs) Q E s := by
  obtain ⟨dp, un, gd, cn, cs, a, ccd, cl, outer, A₀, base, rfl, b, k, e1, e2⟩ := B
  have h1 := Nat.le_of_ble_eq_true hd
  have h2 := Nat.le_of_ble_eq_true hu
  exact con_use C b F X N T k (by omega) (by omega) ret
theorem site_gen {A : Around} {L : Addr} {h₀ : Heap} {D0 U0 dp un : Nat} {gd : Option (List Code)} {cn : Str} {cs : Scope} {a : Addr} {ccd : Value} {cl : List (Str × Addr)} {outer : List Env} {A₀ : Around} {base : Heap}
    (e : A = ktrTop (dp + 1) (un + 3) gd cn cs L a ccd cl outer) (B : Below A₀ base outer h₀) (k : cs.kind = .function) (hd : dp + D0 < recursionLimit) (hu : un + U0 < cLine) : Site A L h₀ D0 U0 :=
  ⟨_, _, _, _, _, _, _, _, _, _, _, e, B, k, by omega, by omega⟩
theorem letA {M : Model} {A : Around} {t : Sem Flow} {Q : Flow → Shared → Prop} {E : Value → Shared → Prop} {s : Shared} (h : let A9 := A; wpAny M A9 t Q E s) : wpAny M A t Q E s := h
theorem gen_storeI {M : Model} {A : Around} {env : Env} {x : Str} {i : Int} {t : Tok} {Q : Unit → Shared → Prop} {E : Value → Shared → Prop} {s : Shared} (H : ∀ u, wpAny M A (storeName env x (.int i u)) Q E s) : wpAny M A (storeName env x (.int i t)) Q E s := H t
theorem gen_storeS {M : Model} {A : Around} {env : Env} {x : Str} {i : Str} {t : Tok} {Q : Unit → Shared → Prop} {E : Value → Shared → Prop} {s : Shared} (H : ∀ u, wpAny M A (storeName env x (.str i u)) Q E s) : wpAny M A (storeName env x (.str i t)) Q E s := H t
theorem gen_toks {M : Model} {A : Around} {t : Sem Flow} {Q : Flow → Shared → Prop} {E : Value → Shared → Prop} {h : Heap} {g : Array GenState} {d : Drawn} {k : Nat} {o : OsState} (H : ∀ k, wpAny M A t Q E ⟨h, g, d, k, o⟩) : wpAny M A t Q E ⟨h, g, d, k, o⟩ := H k
theorem con_val {G : Gl} {f : Addr} {vs : List Value} {news : News'} {D U D0 U0 : Nat}
    {A : Around} {h₀ : Heap} {L : Addr} {m : Str → Option Value} {s : Shared} {Q E : Value → Shared → Prop} {x : Value}
    (C : Con G f vs news D U (fun n v => n = news ∧ v = x)) (B : Site A L h₀ D0 U0) (F : Fr h₀ L s.heap m) (X : (KN G.w.params).In h₀) (N : News h₀ L s.heap news) (T : Top topProg G.loose G.mean G.mg G.mb h₀) (hd : Nat.ble (D + 1) D0 = true) (hu : Nat.ble (U + 3) U0 = true)
    (ret : ∀ h' tk', Fr h₀ L h' m → News h₀ L h' news → Q x { s with heap := h', toks := tk' }) : wpAny (model PySem.Challenge.rw_qd0103_01.prog G.w) A (call (.ref f) vs) Q E s :=
  con_site C B F X N T hd hu fun _ _ h tk F' N' p => by obtain ⟨rfl, rfl⟩ := p; exact ret _ _ F' N'
theorem con_valt {G : Gl} {f : Addr} {vs : List Value} {news : News'} {D U D0 U0 : Nat}
    {A : Around} {h₀ : Heap} {L : Addr} {m : Str → Option Value} {s : Shared} {Q E : Value → Shared → Prop} {g : Tok → Value}
    (C : Con G f vs news D U (fun n v => n = news ∧ ∃ t, v = g t)) (B : Site A L h₀ D0 U0) (F : Fr h₀ L s.heap m) (X : (KN G.w.params).In h₀) (N : News h₀ L s.heap news) (T : Top topProg G.loose G.mean G.mg G.mb h₀) (hd : Nat.ble (D + 1) D0 = true) (hu : Nat.ble (U + 3) U0 = true)
    (ret : ∀ t h' tk', Fr h₀ L h' m → News h₀ L h' news → Q (g t) { s with heap := h', toks := tk' }) : wpAny (model PySem.Challenge.rw_qd0103_01.prog G.w) A (call (.ref f) vs) Q E s :=
  con_site C B F X N T hd hu fun _ _ h tk F' N' p => by obtain ⟨rfl, t, rfl⟩ := p; exact ret t _ _ F' N'
theorem con_tok {G : Gl} {f : Addr} {vs : List Value} {news : News'} {D U D0 U0 : Nat}
    {A : Around} {h₀ : Heap} {L : Addr} {m : Str → Option Value} {s : Shared} {Q E : Value → Shared → Prop} {kd wo : Str}
    (C : Con G f vs news D U (fun n v => n = news ∧ ∃ t tp, v = .ref t ∧ TokAt news t tp kd wo)) (B : Site A L h₀ D0 U0) (F : Fr h₀ L s.heap m) (X : (KN G.w.params).In h₀) (N : News h₀ L s.heap news) (T : Top topProg G.loose G.mean G.mg G.mb h₀) (hd : Nat.ble (D + 1) D0 = true) (hu : Nat.ble (U + 3) U0 = true)
    (ret : ∀ t tp h' tk', Fr h₀ L h' m → News h₀ L h' news → TokAt news t tp kd wo → Q (.ref t) { s with heap := h', toks := tk' }) : wpAny (model PySem.Challenge.rw_qd0103_01.prog G.w) A (call (.ref f) vs) Q E s :=
  con_site C B F X N T hd hu fun _ _ h tk F' N' p => by obtain ⟨rfl, t, tp, rfl, z⟩ := p; exact ret t tp _ _ F' N' z
theorem sw_len : (⟨⟨[108, 101, 110]⟩⟩ : Str) = Str.ofString "len" := by kernel_rfl!

theorem sw_split : (⟨⟨[115, 112, 108, 105, 116]⟩⟩ : Str) = Str.ofString "split" := by kernel_rfl!
theorem sw_index : (⟨⟨[105, 110, 100, 101, 120]⟩⟩ : Str) = Str.ofString "index" := by kernel_rfl!
theorem sw_append : (⟨⟨[97, 112, 112, 101, 110, 100]⟩⟩ : Str) = Str.ofString "append" := by kernel_rfl!
theorem sw_range : (⟨⟨[114, 97, 110, 103, 101]⟩⟩ : Str) = Str.ofString "range" := by kernel_rfl!
theorem sw_abs : (⟨⟨[97, 98, 115]⟩⟩ : Str) = Str.ofString "abs" := by kernel_rfl!
theorem sw_int : (⟨⟨[105, 110, 116]⟩⟩ : Str) = Str.ofString "int" := by kernel_rfl!
theorem sw_sum : (⟨⟨[115, 117, 109]⟩⟩ : Str) = Str.ofString "sum" := by kernel_rfl!
theorem sw_tuple : (⟨⟨[116, 117, 112, 108, 101]⟩⟩ : Str) = Str.ofString "tuple" := by kernel_rfl!
theorem sw_enumerate : (⟨⟨[101, 110, 117, 109, 101, 114, 97, 116, 101]⟩⟩ : Str) = Str.ofString "enumerate" := by kernel_rfl!
theorem sw_bytes : (⟨⟨[98, 121, 116, 101, 115]⟩⟩ : Str) = Str.ofString "bytes" := by kernel_rfl!
theorem sw_ord : (⟨⟨[111, 114, 100]⟩⟩ : Str) = Str.ofString "ord" := by kernel_rfl!
theorem sw_min : (⟨⟨[109, 105, 110]⟩⟩ : Str) = Str.ofString "min" := by kernel_rfl!
theorem in_str_is {prog : Program} {w : World} {A : Around} {E : Value → Shared → Prop} {s : Shared} {x y : Str} {t u : Tok} {Q : Value → Shared → Prop} (b : Bool) (hb : (!(Builtin.Str.occurrences x y 0 x.length 1).isEmpty) = b) (h : Q (.bool b) s) : wpAny (model prog w) A (compareOp .In (.str y u) (.str x t)) Q E s := by
  subst hb; exact in_str h
theorem notIn_str_is {prog : Program} {w : World} {A : Around} {E : Value → Shared → Prop} {s : Shared} {x y : Str} {t u : Tok} {Q : Value → Shared → Prop} (b : Bool) (hb : (!(!(Builtin.Str.occurrences x y 0 x.length 1).isEmpty)) = b) (h : Q (.bool b) s) : wpAny (model prog w) A (compareOp .NotIn (.str y u) (.str x t)) Q E s := by
  subst hb; exact notIn_str h
theorem len_str_is {prog : Program} {w : World} {A : Around} {E : Value → Shared → Prop} {s : Shared} {x : Str} {t : Tok} {Q : Value → Shared → Prop} (n : Int) (hn : (x.length : Int) = n) (hf : n < 2 ^ 63) (h : Q (.int n (s.toks + 1)) { s with toks := s.toks + 1 + 1 }) : wpAny (model prog w) A (call (.builtin "len") [.str x t]) Q E s := by
  subst hn; exact len_str (by omega) h
-- what stands at a place
noncomputable def at? (ts : Toks) (i : Nat) : Option (Str × Str) := ts[i]?
/-- what peek hands back -/
inductive PeekAt (news : News') (ts : Toks) (i : Nat) : Value → Prop
  | none : ts[i]? = none → PeekAt news ts i .none
  | some {t tp k w} : ts[i]? = some (k, w) → TokAt news t tp k w → PeekAt news ts i (.ref t)
end Mine
end
noncomputable section
open PySem PySem.W PyProof.Rows PySem.Calls
set_option Elab.async false
set_option maxRecDepth 100000
namespace Mine
noncomputable abbrev PX : Program := PySem.Challenge.rw_qd0103_01.prog
/-- what is written of a frame -/
structure Sc where
  cs : Scope
  D : Nat
  U : Nat
  cd : Value
noncomputable def sqL : List Nat → List Nat → Bool
  | [], [] => true
  | a :: x, b :: y => match Nat.beq a b with | true => sqL x y | false => false
  | _, _ => false
noncomputable def sq (a b : Str) : Bool := sqL a.cps.toList b.cps.toList
theorem sqL_eq : ∀ {a b : List Nat}, sqL a b = decide (a = b)
  | [], [] => rfl
  | [], _ :: _ => rfl
  | _ :: _, [] => rfl
  | a :: x, b :: y => by
    unfold sqL
    cases h : Nat.beq a b with
    | true => rw [Nat.eq_of_beq_eq_true h]; simp [sqL_eq]
    | false => simp [Nat.ne_of_beq_eq_false h]
theorem sq_eq {a b : Str} : sq a b = decide (a = b) := by
  unfold sq
  rw [sqL_eq]
  refine decide_eq_decide.mpr ⟨fun h => ?_, fun h => by rw [h]⟩
  obtain ⟨⟨a⟩⟩ := a
  obtain ⟨⟨b⟩⟩ := b
  cases h; rfl
noncomputable def lk {α : Type} : List (Str × α) → Str → Option α
  | [], _ => none
  | (y, v) :: r, x => match sq y x with | true => some v | false => lk r x
noncomputable def put : List (Str × Value) → Str → Value → List (Str × Value)
  | [], x, v => [(x, v)]
  | (y, u) :: r, x, v => match sq y x with | true => (x, v) :: r | false => (y, u) :: put r x v
/-- the names of a def and what they hold -/
noncomputable def zipA : List Arg → List Value → List (Str × Value)
  | ⟨x, _, _⟩ :: r, v :: vs => (x, v) :: zipA r vs
  | _, _ => []
noncomputable def keyIn (x : Str) : List Arg → Bool
  | [] => false
  | ⟨y, _, _⟩ :: r => match sq y x with | true => true | false => keyIn x r
noncomputable def keysApart : List Arg → Bool
  | [] => true
  | ⟨x, _, _⟩ :: r => match keyIn x r with | true => false | false => keysApart r
theorem lk_put {x : Str} {v : Value} : ∀ (l : List (Str × Value)), lk (put l x v) = fun y => if y = x then some v else lk l y
  | [] => by
    funext y
    unfold put lk lk
    rw [sq_eq]
    by_cases h : x = y
    · simp [h]
    · simp [h, Ne.symm h]
  | (z, u) :: r => by
    funext y
    unfold put
    rw [sq_eq]
    by_cases h : z = x
    · rw [decide_eq_true h]
      show (match sq x y with | true => some v | false => lk r y) = _
      rw [sq_eq]
      by_cases e : x = y
      · simp [e]
      · simp only [e, decide_false, Ne.symm e, if_false]
        show _ = (match sq z y with | true => some u | false => lk r y)
        rw [h, sq_eq]; simp [e]
    · rw [decide_eq_false h]
      show (match sq z y with | true => some u | false => lk (put r x v) y) = _
      rw [lk_put r]
      show _ = if y = x then some v else (match sq z y with | true => some u | false => lk r y)
      rw [sq_eq]
      by_cases e : z = y
      · have : y ≠ x := fun q => h (e.trans q)
        simp [e, this]
      · simp [e]
theorem lk_eq {α : Type} {x : Str} : ∀ (l : List (Str × α)), lk l x = l.lookup x
  | [] => rfl
  | (y, v) :: r => by
    unfold lk
    rw [sq_eq, List.lookup_cons, lk_eq r]
    by_cases h : y = x
    · subst h; simp
    · have : (x == y) = false := beq_eq_false_iff_ne.mpr (Ne.symm h)
      simp [h, this]
noncomputable def flowV (f : Flow) : Value := match f with
  | .ret v => v
  | _ => .none
noncomputable abbrev Ml := List (Str × Value)
set_option genSizeOf false
set_option genInjectivity false
inductive Res
  | v (v : Value)
  | vs (l : List Value)
  | b (b : Bool)
  | f (f : Flow)
inductive Tk
  | ev (e : PySem.Expr)
  | cond (e : PySem.Expr)
  | args (pos : Pos) (l : List PySem.Expr)
  | exec (st : Stmt)
  | block (l : List Stmt)
  | ret (r : Res)
  | call (f : Value) (vs : List Value)
  | callF (f : Value) (first : List Value) (pos : Pos) (args : List PySem.Expr)
  | attr (ov : Value) (name : Str)
  | meth (ov : Value) (name : Str) (args : List PySem.Expr) (pos : Pos)
  | bin (op : Operator) (a b : Value)
  | cmp (op : CmpOp) (a b : Value)
  | tru (v : Value)
  | uno (op : UnaryOp) (v : Value)
  | set (ov : Value) (name : Str) (v : Value)
  | sub (value slice : PySem.Expr) (o i : Value)
  | tup (vs : List Value)
  | lst (vs : List Value)
  | forL (xv : Value) (x : Str) (body : List Stmt)
  | unp (elts : List PySem.Expr) (k : Nat) (pos : Pos) (v : Value)
  | put (ov iv v : Value)
  | unpW (x y : Str) (v : Value)
inductive Kf
  | binL (op : Operator) (r : PySem.Expr)
  | binR (op : Operator) (a : Value)
  | cmpL (op : CmpOp) (r : PySem.Expr)
  | cmpR (op : CmpOp) (a : Value)
  | uno (op : UnaryOp)
  | tru
  | retK
  | asg (x : Str)
  | asgA (o : PySem.Expr) (attr : Str)
  | asgB (attr : Str) (v : Value)
  | asgT (elts : List PySem.Expr) (k : Nat) (pos : Pos)
  | asgW (x y : Str)
  | subA (o i : PySem.Expr)
  | subB (i : PySem.Expr) (v : Value)
  | subC (ov v : Value)
  | seq (rest : List Stmt)
  | ifS (b o : List Stmt)
  | notB
  | andB (rest : List PySem.Expr) (pos : Pos)
  | orB (rest : List PySem.Expr) (pos : Pos)
  | boolV (op : BoolOp) (e : PySem.Expr) (rest : List PySem.Expr) (pos : Pos)
  | boolT (op : BoolOp) (v : Value) (e : PySem.Expr) (rest : List PySem.Expr) (pos : Pos)
  | ifE (b o : PySem.Expr)
  | ifC (b o : PySem.Expr)
  | attr (name : Str)
  | meth (name : Str) (args : List PySem.Expr) (pos : Pos)
  | callE (args : List PySem.Expr) (pos : Pos)
  | callK (f : Value) (first : List Value)
  | argK (pos : Pos) (rest : List PySem.Expr)
  | consK (v : Value)
  | tupK
  | lstK
  | subL (value slice : PySem.Expr)
  | subR (value slice : PySem.Expr) (o : Value)
  | dropK
  | whT (t : PySem.Expr) (b : List Stmt)
  | whB (t : PySem.Expr) (b : List Stmt)
  | forK (x : Str) (body : List Stmt)
  | forB (I : Addr) (it : Obj) (lp : Addr × Obj) (x : Str) (body : List Stmt) (rest : List Value)
  | q (Q : Flow → Shared → Prop)
  | qv (Q : Value → Shared → Prop)
/-- a frame of ours, with all that holds of it -/
structure Xx (G : Gl) (sc : Sc) where
  A : Around
  h₀ : Heap
  L : Addr
  cn : Str
  a : Addr
  E : Value → Shared → Prop
  s0 : Shared
  fin : Flow → Shared → Prop
  P : News' → Value → Prop
  site : Site A L h₀ sc.D sc.U
  X : (KN G.w.params).In h₀
  T : Top topProg G.loose G.mean G.mg G.mb h₀
  pass : PassesOwn (model PX G.w) A (envX cn sc.cs L a sc.cd []) E
  hh : A.handled = none
  hk : sc.cs.kind = .function
  nd : lk sc.cs.names ⟨⟨[95, 95, 100, 101, 98, 117, 103, 95, 95]⟩⟩ = none
  done : ∀ fl h tk m ns, Fr h₀ L h m → News h₀ L h ns → P ns (flowV fl) → fin fl { s0 with heap := h, toks := tk }
section
variable {G : Gl} {sc : Sc} (X : Xx G sc)
noncomputable abbrev Xx.env : Env := envX X.cn sc.cs X.L X.a sc.cd []
noncomputable abbrev Xx.wp {α : Type} (t : Sem α) (Q : α → Shared → Prop) (s : Shared) : Prop := wpAny (model PX G.w) X.A t Q X.E s
noncomputable def Xx.R (ml : Ml) (ns : News') (tk : Nat) (s : Shared) : Prop := ∃ h, s = { X.s0 with heap := h, toks := tk } ∧ Fr X.h₀ X.L h (lk ml) ∧ News X.h₀ X.L h ns
noncomputable def Xx.callD (f : Value) (first : List Value) (vs : List Value) (Q : Value → Shared → Prop) (s : Shared) : Prop := X.wp (call f (first ++ vs)) Q s
noncomputable def den : List Kf → Res → Shared → Prop
  | [], .f fl, s => X.fin fl s
  | [], _, _ => False
  | k :: K, r, s => match k, r with
    | .binL op e, .v a => X.wp (eval e X.env) (fun b s2 => X.wp (binaryOp op a b) (fun v => den K (.v v)) s2) s
    | .binR op a, .v b => X.wp (binaryOp op a b) (fun v => den K (.v v)) s
    | .cmpL op e, .v a => X.wp (eval e X.env) (fun b s2 => X.wp (compareOp op a b) (fun v => den K (.v v)) s2) s
    | .cmpR op a, .v b => X.wp (compareOp op a b) (fun v => den K (.v v)) s
    | .uno op, .v v => X.wp (unaryOp op v) (fun v => den K (.v v)) s
    | .tru, .v v => X.wp (truthy v) (fun b => den K (.b b)) s
    | .retK, .v v => den K (.f (.ret v)) s
    | .asg x, .v v => X.wp (storeName X.env x v) (fun _ => den K (.f .next)) s
    | .asgA o attr, .v v => X.wp (eval o X.env) (fun ov s2 => X.wp (setAttr ov attr v) (fun _ => den K (.f .next)) s2) s
    | .asgB attr v, .v ov => X.wp (setAttr ov attr v) (fun _ => den K (.f .next)) s
    | .asgT elts k pos, .v v => X.wp (assign (.Tuple elts k pos) X.env v) (fun _ => den K (.f .next)) s
    | .asgW x y, .v v => X.wp (unpackItems v 2 none) (fun items s2 => X.wp (assignInOrder [bindName X.env y, bindName X.env x] items.reverse) (fun _ => den K (.f .next)) s2) s
    | .subA o i, .v v => X.wp (eval o X.env) (fun ov s2 => X.wp (eval i X.env) (fun iv s3 => X.wp (setItem ov iv v) (fun _ => den K (.f .next)) s3) s2) s
    | .subB i v, .v ov => X.wp (eval i X.env) (fun iv s3 => X.wp (setItem ov iv v) (fun _ => den K (.f .next)) s3) s
    | .subC ov v, .v iv => X.wp (setItem ov iv v) (fun _ => den K (.f .next)) s
    | .seq rest, .f fl => (match fl with | .next => X.wp (execs rest X.env) (fun f => den K (.f f)) s | f => den K (.f f) s)
    | .ifS b o, .b c => if c then X.wp (execs b X.env) (fun f => den K (.f f)) s else X.wp (execs o X.env) (fun f => den K (.f f)) s
    | .notB, .b c => den K (.b (!c)) s
    | .andB rest pos, .b c => if c then X.wp (isTrue (.BoolOp .And rest pos) X.env (eval (.BoolOp .And rest pos) X.env)) (fun b => den K (.b b)) s else den K (.b false) s
    | .orB rest pos, .b c => if c then den K (.b true) s else X.wp (isTrue (.BoolOp .Or rest pos) X.env (eval (.BoolOp .Or rest pos) X.env)) (fun b => den K (.b b)) s
    | .boolV op e rest pos, .v v => X.wp (truthy v) (fun c s2 => match op with
        | .And => if c then X.wp (eval (.BoolOp .And (e :: rest) pos) X.env) (fun v => den K (.v v)) s2 else den K (.v v) s2
        | .Or => if c then den K (.v v) s2 else X.wp (eval (.BoolOp .Or (e :: rest) pos) X.env) (fun v => den K (.v v)) s2) s
    | .boolT op v e rest pos, .b c => (match op with
        | .And => if c then X.wp (eval (.BoolOp .And (e :: rest) pos) X.env) (fun v => den K (.v v)) s else den K (.v v) s
        | .Or => if c then den K (.v v) s else X.wp (eval (.BoolOp .Or (e :: rest) pos) X.env) (fun v => den K (.v v)) s)
    | .ifE b o, .b c => if c then X.wp (eval b X.env) (fun v => den K (.v v)) s else X.wp (eval o X.env) (fun v => den K (.v v)) s
    | .ifC b o, .b c => if c then X.wp (isTrue b X.env (eval b X.env)) (fun v => den K (.b v)) s else X.wp (isTrue o X.env (eval o X.env)) (fun v => den K (.b v)) s
    | .attr name, .v ov => X.wp (getAttr ov name true) (fun v => den K (.v v)) s
    | .meth name args pos, .v ov => ∀ pl, X.wp (getMethod ov name pl) (fun fx s2 => X.wp (callWith pos fx.1 fx.2 (backTo pos (starEach args X.env)) []) (fun v => den K (.v v)) s2) s
    | .callE args pos, .v f => X.wp (callWith pos f [] (backTo pos (starEach args X.env)) []) (fun v => den K (.v v)) s
    | .callK f first, .vs l => (KN G.w.params).In s.heap ∧ X.wp (call f (first ++ l)) (fun v => den K (.v v)) s
    | .argK pos rest, .v v => X.wp (spliced (backTo pos (starEach rest X.env))) (fun vs => den K (.vs (v :: vs))) s
    | .consK v, .vs l => den K (.vs (v :: l)) s
    | .tupK, .vs l => X.wp (newTuple l) (fun v => den K (.v v)) s
    | .lstK, .vs l => X.wp (newList l) (fun v => den K (.v v)) s
    | .subL value slice, .v o => X.wp (eval slice X.env) (fun i s2 => X.wp (subscriptTail value slice o i) (fun v => den K (.v v)) s2) s
    | .subR value slice o, .v i => X.wp (subscriptTail value slice o i) (fun v => den K (.v v)) s
    | .dropK, .v _ => den K (.f .next) s
    | .whT t b, .b c => WhlIf c (X.wp (execs b X.env) (WhlPost PX G.w X.A X.E X.env t b [] (fun f => den K (.f f)) 0) s) (X.wp (execs [] X.env) (fun f => den K (.f f)) s)
    | .whB t b, .f fl => WhlPost PX G.w X.A X.E X.env t b [] (fun f => den K (.f f)) 0 fl s
    | .forK x body, .v xv => X.wp (pyIter xv) (fun it s₂ => LoopAtV PX G.w X.A X.h₀ X.env x body (fun f => den K (.f f)) X.E it s₂) s
    | .forB I it lp x body r, .f fl => UnrPost X.h₀ X.L X.s0 I it (fun m' n' => lp ∈ n' ∧ ListRest PX G.w X.A X.E X.h₀ X.env x body (fun f => den K (.f f)) X.s0 I lp r m' n') (fun f => den K (.f f)) fl s
    | .q Q, .f fl => Q fl s
    | .qv Q, .v v => Q v s
    | _, _ => False
noncomputable def sem : Tk → List Kf → Shared → Prop
  | .ev e, K, s => X.wp (eval e X.env) (fun v => den X K (.v v)) s
  | .cond e, K, s => X.wp (isTrue e X.env (eval e X.env)) (fun b => den X K (.b b)) s
  | .args pos l, K, s => X.wp (spliced (backTo pos (starEach l X.env))) (fun l => den X K (.vs l)) s
  | .exec st, K, s => X.wp (exec st X.env) (fun f => den X K (.f f)) s
  | .block l, K, s => X.wp (execs l X.env) (fun f => den X K (.f f)) s
  | .ret r, K, s => den X K r s
  | .call f vs, K, s => X.wp (call f vs) (fun v => den X K (.v v)) s
  | .callF f first pos args, K, s => X.wp (callWith pos f first (backTo pos (starEach args X.env)) []) (fun v => den X K (.v v)) s
  | .attr ov name, K, s => X.wp (getAttr ov name true) (fun v => den X K (.v v)) s
  | .meth ov name args pos, K, s => ∀ pl, X.wp (getMethod ov name pl) (fun fx s2 => X.wp (callWith pos fx.1 fx.2 (backTo pos (starEach args X.env)) []) (fun v => den X K (.v v)) s2) s
  | .bin op a b, K, s => X.wp (binaryOp op a b) (fun v => den X K (.v v)) s
  | .cmp op a b, K, s => X.wp (compareOp op a b) (fun v => den X K (.v v)) s
  | .tru v, K, s => X.wp (truthy v) (fun b => den X K (.b b)) s
  | .uno op v, K, s => X.wp (unaryOp op v) (fun v => den X K (.v v)) s
  | .set ov name v, K, s => X.wp (setAttr ov name v) (fun _ => den X K (.f .next)) s
  | .sub value slice o i, K, s => X.wp (subscriptTail value slice o i) (fun v => den X K (.v v)) s
  | .tup l, K, s => X.wp (newTuple l) (fun v => den X K (.v v)) s
  | .lst l, K, s => X.wp (newList l) (fun v => den X K (.v v)) s
  | .unp elts k pos v, K, s => X.wp (assign (.Tuple elts k pos) X.env v) (fun _ => den X K (.f .next)) s
  | .unpW x y v, K, s => X.wp (unpackItems v 2 none) (fun items s2 => X.wp (assignInOrder [bindName X.env y, bindName X.env x] items.reverse) (fun _ => den X K (.f .next)) s2) s
  | .put ov iv v, K, s => X.wp (setItem ov iv v) (fun _ => den X K (.f .next)) s
  | .forL xv x body, K, s => X.wp (pyIter xv) (fun it s₂ => LoopAtV PX G.w X.A X.h₀ X.env x body (fun f => den X K (.f f)) X.E it s₂) s
/-- what is left to a rule by hand -/
structure Ob (t : Tk) (K : List Kf) (ml : Ml) (ns : News') (tk : Nat) : Prop where
  run : ∀ s, X.R ml ns tk s → sem X t K s
structure End (ns : News') (v : Value) : Prop where
  run : ∃ ns', (∀ x ∈ ns', x ∈ ns) ∧ X.P ns' v
end
/-- both ways of a decision -/
noncomputable def IfB (b : Bool) (P Q : Prop) : Prop := match b with
  | true => P
  | false => Q
theorem IfB.elim {b : Bool} {P Q R : Prop} (h : IfB b P Q) (h1 : b = true → P → R) (h2 : Q → R) : R := by
  cases b with
  | true => exact h1 rfl h
  | false => exact h2 h
theorem IfB.elim2 {b : Bool} {P Q R : Prop} (h : IfB b P Q) (h1 : b = true → P → R) (h2 : b = false → Q → R) : R := by
  cases b with
  | true => exact h1 rfl h
  | false => exact h2 rfl h
noncomputable def onSome {α : Type} (o : Option α) (f : α → Prop) (Q : Prop) : Prop := match o with
  | some a => f a
  | none => Q
theorem onSome.elim {α : Type} {o : Option α} {f : α → Prop} {Q R : Prop} (h : onSome o f Q) (h1 : ∀ a, o = some a → f a → R) (h2 : Q → R) : R := by
  cases o with
  | some a => exact h1 a rfl h
  | none => exact h2 h
noncomputable def notComp : PySem.Expr → Bool
  | .ListComp .. => false
  | .SetComp .. => false
  | .DictComp .. => false
  | _ => true
noncomputable def notSet : PySem.Expr → Bool
  | .Set .. => false
  | _ => true
noncomputable def notStar : PySem.Expr → Bool
  | .Starred .. => false
  | _ => true
noncomputable def noStars : List PySem.Expr → Bool
  | [] => true
  | e :: r => notStar e && noStars r
/-- no call super() -/
noncomputable def plainBase : PySem.Expr → Bool
  | .Call f args _ _ => (match args with
    | [] => (match f with
      | .Name _ _ => false
      | _ => true)
    | _ :: _ => true)
  | _ => true
noncomputable def methOk (o : PySem.Expr) (apos pos : Pos) (args : List PySem.Expr) : Bool := plainBase o && (Nat.beq apos.endLine pos.line && Nat.blt args.length 30)
noncomputable def isLoc (sc : Sc) (x : Str) : Bool := match lk sc.cs.names x with
  | some .local => true
  | _ => false
section
variable {G : Gl} {sc : Sc} (X : Xx G sc) (rec : Tk → List Kf → Ml → News' → Nat → Prop)
noncomputable def evS (e : PySem.Expr) (K : List Kf) (ml : Ml) (ns : News') (tk : Nat) : Prop := match e with
  | .Name x pos => IfB (isLoc sc x) (onSome (lk ml x) (fun v => rec (.ret (.v v)) K ml ns tk) False) (Ob X (.ev (.Name x pos)) K ml ns tk)
  | .Constant c k pos => (match c with
    | .int i => rec (.ret (.v (.int i tk))) K ml ns tk.succ
    | .str x => rec (.ret (.v (.str x tk))) K ml ns tk.succ
    | .none => rec (.ret (.v .none)) K ml ns tk
    | .bool b => rec (.ret (.v (.bool b))) K ml ns tk
    | .bytes x => rec (.ret (.v (.bytes x.toArray tk))) K ml ns tk.succ
    | c => Ob X (.ev (.Constant c k pos)) K ml ns tk)
  | .BinOp l op r _ => rec (.ev l) (.binL op r :: K) ml ns tk
  | .UnaryOp op x _ => rec (.ev x) (.uno op :: K) ml ns tk
  | .IfExp t b o _ => rec (.cond t) (.ifE b o :: K) ml ns tk
  | .BoolOp op l pos => (match l with
    | [e] => rec (.ev e) K ml ns tk
    | e :: e2 :: r => rec (.ev e) (.boolV op e2 r pos :: K) ml ns tk
    | [] => Ob X (.ev (.BoolOp op [] pos)) K ml ns tk)
  | .Compare l ops rs pos => (match ops, rs with
    | [op], [r] => IfB (behindInMarks op r) (Ob X (.ev (.Compare l [op] [r] pos)) K ml ns tk) (rec (.ev l) (.cmpL op r :: K) ml ns tk)
    | ops, rs => Ob X (.ev (.Compare l ops rs pos)) K ml ns tk)
  | .Call f args kw pos => (match kw with
    | [] => IfB (noStars args) (match f with
        | .Attribute o name apos => IfB (methOk o apos pos args) (rec (.ev o) (.meth name args pos :: K) ml ns tk) (Ob X (.ev (.Call (.Attribute o name apos) args [] pos)) K ml ns tk)
        | .Name x p => rec (.ev (.Name x p)) (.callE args pos :: K) ml ns tk
        | f => Ob X (.ev (.Call f args [] pos)) K ml ns tk) (Ob X (.ev (.Call f args [] pos)) K ml ns tk)
    | kw => Ob X (.ev (.Call f args kw pos)) K ml ns tk)
  | .Attribute o name pos => IfB (plainBase o) (rec (.ev o) (.attr name :: K) ml ns tk) (Ob X (.ev (.Attribute o name pos)) K ml ns tk)
  | .Tuple l _ pos => rec (.args pos l) (.tupK :: K) ml ns tk
  | .List l pos => rec (.args pos l) (.lstK :: K) ml ns tk
  | .Subscript o i _ => rec (.ev o) (.subL o i :: K) ml ns tk
  | e => Ob X (.ev e) K ml ns tk
noncomputable def condS (e : PySem.Expr) (K : List Kf) (ml : Ml) (ns : News') (tk : Nat) : Prop := match e with
  | .UnaryOp op x pos => (match op with
    | .Not => rec (.cond x) (.notB :: K) ml ns tk
    | op => Ob X (.cond (.UnaryOp op x pos)) K ml ns tk)
  | .BoolOp op l pos => (match op with
    | .And => (match l with
      | [] => rec (.ret (.b true)) K ml ns tk
      | e :: r => rec (.cond e) (.andB r pos :: K) ml ns tk)
    | .Or => (match l with
      | [] => rec (.ret (.b false)) K ml ns tk
      | e :: r => rec (.cond e) (.orB r pos :: K) ml ns tk))
  | .IfExp t b o _ => rec (.cond t) (.ifC b o :: K) ml ns tk
  | .Compare l ops rs pos => (match ops, rs with
    | [op], [r] => IfB (behindInMarks op r) (Ob X (.cond (.Compare l [op] [r] pos)) K ml ns tk) (rec (.ev l) (.cmpL op r :: .tru :: K) ml ns tk)
    | ops, rs => Ob X (.cond (.Compare l ops rs pos)) K ml ns tk)
  | .Name x pos => rec (.ev (.Name x pos)) (.tru :: K) ml ns tk
  | .Call f a k pos => rec (.ev (.Call f a k pos)) (.tru :: K) ml ns tk
  | .Attribute o n pos => rec (.ev (.Attribute o n pos)) (.tru :: K) ml ns tk
  | .Subscript o i pos => rec (.ev (.Subscript o i pos)) (.tru :: K) ml ns tk
  | e => Ob X (.cond e) K ml ns tk
noncomputable def execS (s : Stmt) (K : List Kf) (ml : Ml) (ns : News') (tk : Nat) : Prop := match s with
  | .Return e _ => (match e with
    | some e => rec (.ev e) (.retK :: K) ml ns tk
    | none => rec (.ret (.f (.ret .none))) K ml ns tk)
  | .Assign ts e pos => (match ts with
    | [t] => IfB (notComp e) (match t with
      | .Name x _ => rec (.ev e) (.asg x :: K) ml ns tk
      | .Attribute o attr _ => rec (.ev e) (.asgA o attr :: K) ml ns tk
      | .Subscript o i _ => rec (.ev e) (.subA o i :: K) ml ns tk
      | .Tuple elts k p => (match e with
        | .Tuple es n q => IfB (es.all (foldedForSure 8)) (rec (.ev (.Tuple es n q)) (.asgT elts k p :: K) ml ns tk)
          (Ob X (.exec (.Assign [.Tuple elts k p] (.Tuple es n q) pos)) K ml ns tk)
        | e => Ob X (.exec (.Assign [.Tuple elts k p] e pos)) K ml ns tk)
      | t => Ob X (.exec (.Assign [t] e pos)) K ml ns tk) (Ob X (.exec (.Assign [t] e pos)) K ml ns tk)
    | ts => Ob X (.exec (.Assign ts e pos)) K ml ns tk)
  | .If t b o _ => rec (.cond t) (.ifS b o :: K) ml ns tk
  | .For t it body o pos => (match t with
    | .Name x p => (match o with
      | [] => IfB (notSet it && isLoc sc x) (rec (.ev it) (.forK x body :: K) ml ns tk) (Ob X (.exec (.For (.Name x p) it body [] pos)) K ml ns tk)
      | o => Ob X (.exec (.For (.Name x p) it body o pos)) K ml ns tk)
    | t => Ob X (.exec (.For t it body o pos)) K ml ns tk)
  | .Expr e pos => IfB (notComp e) (rec (.ev e) (.dropK :: K) ml ns tk) (Ob X (.exec (.Expr e pos)) K ml ns tk)
  | s => Ob X (.exec s) K ml ns tk
noncomputable def binS (op : Operator) (a b : Value) (K : List Kf) (ml : Ml) (ns : News') (tk : Nat) : Prop := match a with
  | .int i t => (match b with
    | .int j u => (match op with
      | .Add => rec (.ret (.v (.int (i + j) tk))) K ml ns tk.succ
      | .Sub => rec (.ret (.v (.int (i - j) tk))) K ml ns tk.succ
      | op => Ob X (.bin op (.int i t) (.int j u)) K ml ns tk)
    | b => Ob X (.bin op (.int i t) b) K ml ns tk)
  | a => Ob X (.bin op a b) K ml ns tk
noncomputable def cmpS (op : CmpOp) (a b : Value) (K : List Kf) (ml : Ml) (ns : News') (tk : Nat) : Prop := match a with
  | .int i t => (match b with
    | .int j u => (match op with
      | .Eq => rec (.ret (.v (.bool (i == j)))) K ml ns tk
      | .Lt => rec (.ret (.v (.bool (decide (i < j))))) K ml ns tk
      | .Gt => rec (.ret (.v (.bool (decide (j < i))))) K ml ns tk
      | op => Ob X (.cmp op (.int i t) (.int j u)) K ml ns tk)
    | b => Ob X (.cmp op (.int i t) b) K ml ns tk)
  | .str i t => (match b with
    | .str j u => (match op with
      | .Eq => rec (.ret (.v (.bool (i == j)))) K ml ns tk
      | .NotEq => rec (.ret (.v (.bool (i != j)))) K ml ns tk
      | op => Ob X (.cmp op (.str i t) (.str j u)) K ml ns tk)
    | b => Ob X (.cmp op (.str i t) b) K ml ns tk)
  | .ref i => (match b with
    | .none => (match op with
      | .Is => rec (.ret (.v (.bool false))) K ml ns tk
      | .IsNot => rec (.ret (.v (.bool true))) K ml ns tk
      | op => Ob X (.cmp op (.ref i) .none) K ml ns tk)
    | b => Ob X (.cmp op (.ref i) b) K ml ns tk)
  | .none => (match b with
    | .none => (match op with
      | .Is => rec (.ret (.v (.bool true))) K ml ns tk
      | .IsNot => rec (.ret (.v (.bool false))) K ml ns tk
      | op => Ob X (.cmp op .none .none) K ml ns tk)
    | b => Ob X (.cmp op .none b) K ml ns tk)
  | .bytes x t => (match b with
    | .none => (match op with
      | .Is => rec (.ret (.v (.bool false))) K ml ns tk
      | op => Ob X (.cmp op (.bytes x t) .none) K ml ns tk)
    | b => Ob X (.cmp op (.bytes x t) b) K ml ns tk)
  | a => Ob X (.cmp op a b) K ml ns tk
noncomputable def unoS (op : UnaryOp) (v : Value) (K : List Kf) (ml : Ml) (ns : News') (tk : Nat) : Prop := match v with
  | .bool b => (match op with
    | .Not => rec (.ret (.v (.bool (!b)))) K ml ns tk
    | op => Ob X (.uno op (.bool b)) K ml ns tk)
  | .int i t => (match op with
    | .USub => rec (.ret (.v (.int (-i) tk))) K ml ns tk.succ
    | op => Ob X (.uno op (.int i t)) K ml ns tk)
  | v => Ob X (.uno op v) K ml ns tk
noncomputable def truS (v : Value) (K : List Kf) (ml : Ml) (ns : News') (tk : Nat) : Prop := match v with
  | .bool b => rec (.ret (.b b)) K ml ns tk
  | .none => rec (.ret (.b false)) K ml ns tk
  | v => Ob X (.tru v) K ml ns tk
noncomputable def argS (pos : Pos) (l : List PySem.Expr) (K : List Kf) (ml : Ml) (ns : News') (tk : Nat) : Prop := match l with
  | [] => rec (.ret (.vs [])) K ml ns tk
  | e :: r => IfB (notStar e) (rec (.ev e) (.argK pos r :: K) ml ns tk) (Ob X (.args pos (e :: r)) K ml ns tk)
noncomputable def retS (r : Res) (K : List Kf) (ml : Ml) (ns : News') (tk : Nat) : Prop := match K with
  | [] => (match r with
    | .f fl => (match fl with
      | .ret v => End X ns v
      | _ => End X ns .none)
    | _ => False)
  | k :: K => (match r with
  | .v v => (match k with
    | .binL op e => rec (.ev e) (.binR op v :: K) ml ns tk
    | .binR op a => rec (.bin op a v) K ml ns tk
    | .cmpL op e => rec (.ev e) (.cmpR op v :: K) ml ns tk
    | .cmpR op a => rec (.cmp op a v) K ml ns tk
    | .uno op => rec (.uno op v) K ml ns tk
    | .tru => rec (.tru v) K ml ns tk
    | .retK => rec (.ret (.f (.ret v))) K ml ns tk
    | .asg x => IfB (isLoc sc x) (rec (.ret (.f .next)) K (put ml x v) ns tk.succ) False
    | .asgA o attr => rec (.ev o) (.asgB attr v :: K) ml ns tk
    | .asgB attr w => Ob X (.set v attr w) K ml ns tk
    | .asgT elts k pos => Ob X (.unp elts k pos v) K ml ns tk
    | .asgW x y => Ob X (.unpW x y v) K ml ns tk
    | .subA o i => rec (.ev o) (.subB i v :: K) ml ns tk
    | .subB i w => rec (.ev i) (.subC v w :: K) ml ns tk
    | .subC ov w => Ob X (.put ov v w) K ml ns tk
    | .boolV op e r pos => rec (.tru v) (.boolT op v e r pos :: K) ml ns tk
    | .attr name => Ob X (.attr v name) K ml ns tk
    | .meth name args pos => Ob X (.meth v name args pos) K ml ns tk
    | .callE args pos => Ob X (.callF v [] pos args) K ml ns tk
    | .argK pos rest => rec (.args pos rest) (.consK v :: K) ml ns tk
    | .subL o i => rec (.ev i) (.subR o i v :: K) ml ns tk
    | .subR o i w => Ob X (.sub o i w v) K ml ns tk
    | .dropK => rec (.ret (.f .next)) K ml ns tk
    | .forK x body => Ob X (.forL v x body) K ml ns tk
    | .qv Q => Ob X (.ret (.v v)) (.qv Q :: K) ml ns tk
    | _ => False)
  | .b b => (match k with
    | .ifS t o => IfB b (rec (.block t) K ml ns tk) (rec (.block o) K ml ns tk)
    | .notB => IfB b (rec (.ret (.b false)) K ml ns tk) (rec (.ret (.b true)) K ml ns tk)
    | .andB r pos => IfB b (rec (.cond (.BoolOp .And r pos)) K ml ns tk) (rec (.ret (.b false)) K ml ns tk)
    | .orB r pos => IfB b (rec (.ret (.b true)) K ml ns tk) (rec (.cond (.BoolOp .Or r pos)) K ml ns tk)
    | .boolT op v e r pos => (match op with
      | .And => IfB b (rec (.ev (.BoolOp .And (e :: r) pos)) K ml ns tk) (rec (.ret (.v v)) K ml ns tk)
      | .Or => IfB b (rec (.ret (.v v)) K ml ns tk) (rec (.ev (.BoolOp .Or (e :: r) pos)) K ml ns tk))
    | .ifE t o => IfB b (rec (.ev t) K ml ns tk) (rec (.ev o) K ml ns tk)
    | .ifC t o => IfB b (rec (.cond t) K ml ns tk) (rec (.cond o) K ml ns tk)
    | .whT t l => IfB b (rec (.block l) (.whB t l :: K) ml ns tk) (rec (.ret (.f .next)) K ml ns tk)
    | _ => False)
  | .vs l => (match k with
    | .callK f first => (match first with
      | [] => Ob X (.call f l) K ml ns tk
      | x :: r => (match r with
        | [] => Ob X (.call f (x :: l)) K ml ns tk
        | y :: r => Ob X (.call f (x :: y :: (r ++ l))) K ml ns tk))
    | .consK v => rec (.ret (.vs (v :: l))) K ml ns tk
    | .tupK => Ob X (.tup l) K ml ns tk
    | .lstK => Ob X (.lst l) K ml ns tk
    | _ => False)
  | .f fl => (match k with
    | .seq rest => (match fl with
      | .next => rec (.block rest) K ml ns tk
      | fl => rec (.ret (.f fl)) K ml ns tk)
    | .whB t l => (match fl with
      | .brk => rec (.ret (.f .next)) K ml ns tk
      | .ret v => rec (.ret (.f (.ret v))) K ml ns tk
      | fl => Ob X (.ret (.f fl)) (.whB t l :: K) ml ns tk)
    | .forB I it lp x body r => (match fl with
      | .ret v => rec (.ret (.f (.ret v))) K ml ns tk
      | .brk => rec (.ret (.f .next)) K ml ns tk
      | fl => Ob X (.ret (.f fl)) (.forB I it lp x body r :: K) ml ns tk)
    | .q Q => Ob X (.ret (.f fl)) (.q Q :: K) ml ns tk
    | _ => False))
noncomputable def stepP (t : Tk) (K : List Kf) (ml : Ml) (ns : News') (tk : Nat) : Prop := match t with
  | .ev e => evS X rec e K ml ns tk
  | .cond e => condS X rec e K ml ns tk
  | .args pos l => argS X rec pos l K ml ns tk
  | .exec s => execS X rec s K ml ns tk
  | .block l => (match l with
    | [] => rec (.ret (.f .next)) K ml ns tk
    | s :: r => rec (.exec s) (.seq r :: K) ml ns tk)
  | .ret r => retS X rec r K ml ns tk
  | .bin op a b => binS X rec op a b K ml ns tk
  | .cmp op a b => cmpS X rec op a b K ml ns tk
  | .tru v => truS X rec v K ml ns tk
  | .uno op v => unoS X rec op v K ml ns tk
  | t => Ob X t K ml ns tk
end
noncomputable def go {G : Gl} {sc : Sc} (X : Xx G sc) (n : Nat) : Tk → List Kf → Ml → News' → Nat → Prop :=
  Nat.rec (fun _ _ _ _ _ => False) (fun _ ih => stepP X ih) n
end Mine
end
noncomputable section
open PySem PySem.W PyProof.Rows PySem.Calls
set_option Elab.async false
set_option maxRecDepth 100000
namespace Mine
theorem dbg_is : (⟨⟨[95, 95, 100, 101, 98, 117, 103, 95, 95]⟩⟩ : Str) = Str.ofString "__debug__" := by kernel_rfl!
theorem swaps_no {e : PySem.Expr} (h : notComp e = true) (t : Option PySem.Expr) (l : Nat) (env : Env) : swapsWith e t l env = pure false := by
  cases e <;> first | rfl | cases h
theorem fold_no {e : PySem.Expr} (h : notSet e = true) (env : Env) (x : Value) : foldedSetIterable e env x = pure x := by
  cases e <;> first | rfl | cases h
theorem swapsSole_no {e : PySem.Expr} (h : notComp e = true) (t : PySem.Expr) (l : Nat) (env : Env) : swapsWithSole [t] e l env = pure false := swaps_no h _ _ _
theorem stores_no {elts es : List PySem.Expr} {k n : Nat} {p q : Pos} (h : es.all (foldedForSure 8) = true) (env : Env) : swappedStores [.Tuple elts k p] (.Tuple es n q) env = pure none := by
  unfold swappedStores
  simp only [h, if_true]
  repeat' split
  all_goals rfl
theorem star_no {e : PySem.Expr} (h : notStar e = true) (r : List PySem.Expr) (env : Env) : starEach (e :: r) env = (false, eval e env) :: starEach r env := by
  cases e <;> first | rfl | cases h
theorem and_l {a b : Bool} (h : (a && b) = true) : a = true := by
  cases a with
  | true => rfl
  | false => exact h
theorem and_r {a b : Bool} (h : (a && b) = true) : b = true := by
  cases a with
  | true => exact h
  | false => exact nomatch h
theorem base_no {o : PySem.Expr} (h : plainBase o = true) (attr : Str) (env : Env) (t : Sem Value) : attributeBase o attr env t = t := by
  cases o with
  | Call f args kw pos =>
    cases args with
    | nil => cases f <;> first | rfl | exact nomatch h
    | cons _ _ => cases f <;> rfl
  | _ => rfl
theorem stars_all {env : Env} {pos : Pos} : ∀ {l : List PySem.Expr}, noStars l = true → (backTo pos (starEach l env)).all (!·.1) = true
  | [], _ => rfl
  | e :: r, h => by
    rw [star_no (and_l h)]
    exact stars_all (l := r) (and_r h)
theorem meth_he {o : PySem.Expr} {apos pos : Pos} {args : List PySem.Expr} (h : methOk o apos pos args = true) (hs : noStars args = true) (name : Str) (env : Env) : eval (.Call (.Attribute o name apos) args [] pos) env = (do
      let ov ← eval o env
      standAt apos.atName
      let (f, first) ← holding [ov] (getMethod ov name (do return (← importBound o env).getD true))
      callWith pos f first (backTo pos (starEach args env)) []) := by
  have h1 := and_l h
  have h2 := and_l (and_r h)
  have h3 := and_r (and_r h)
  show (do
    let ov ← attributeBase o name env (eval o env)
    standAt apos.atName
    methodCall o name apos pos env ov (args.length + 0) (backTo pos (starEach args env)) []) = _
  have hf : methodCallForm (args.length + 0) (backTo pos (starEach args env)) [] = true := by
    unfold methodCallForm
    rw [stars_all hs]
    have : args.length < 30 := Nat.le_of_ble_eq_true h3
    simp only [List.all_nil, Bool.and_true, List.isEmpty_nil, if_true, Bool.true_and, decide_eq_true_eq]
    omega
  rw [base_no h1]
  unfold methodCall
  rw [hf]
  have e : (apos.endLine == pos.line) = true := by rw [Nat.eq_of_beq_eq_true h2]; simp
  simp only [calleeOf, methodCallPos, e, if_true, Bool.or_true, pure_bind]
section
variable {G : Gl} {sc : Sc} {X : Xx G sc} {rec : Tk → List Kf → Ml → News' → Nat → Prop}
theorem Xx.not_dbg (X : Xx G sc) {x : Str} {k : NameKind} (h : lk sc.cs.names x = some k) : (x == ("__debug__" : Str)) = false := by
  rw [beq_eq_false_iff_ne]
  intro e
  subst e
  have := X.nd
  rw [dbg_is] at this
  rw [this] at h
  exact nomatch h
theorem kind_is {x : Str} {k : NameKind} (X : Xx G sc) (h : lk sc.cs.names x = some k) : X.env.kindOf x = some k := (lk_eq sc.cs.names).symm.trans h
theorem isLoc_is {x : Str} (h : isLoc sc x = true) : lk sc.cs.names x = some .local := by
  revert h
  show (match lk sc.cs.names x with | some .local => true | _ => false) = true → _
  cases lk sc.cs.names x with
  | none =>
    intro h
    exact nomatch h
  | some k =>
    intro h
    cases k with
    | «local» => rfl
    | _ => exact nomatch h
theorem evS_ok (ih : ∀ t K ml ns tk, rec t K ml ns tk → ∀ s, X.R ml ns tk s → sem X t K s) {e : PySem.Expr} {K : List Kf} {ml : Ml} {ns : News'} {tk : Nat} (H : evS X rec e K ml ns tk) (s : Shared) (hR : X.R ml ns tk s) : sem X (.ev e) K s := by
  cases e with
  | Name x pos =>
    refine IfB.elim H (fun hx H => onSome.elim H (fun v hv H => ?_) (fun h => h.elim)) (fun H => H.run s hR)
    obtain ⟨h, rfl, F, N⟩ := id hR
    exact nameX_L F hv (ih _ _ _ _ _ H _ hR) X.hk (kind_is X (isLoc_is hx)) (X.not_dbg (isLoc_is hx))
  | Constant c k pos =>
    obtain ⟨h, rfl, F, N⟩ := id hR
    cases c with
    | int i => exact wpAny_Constant_int (ih _ _ _ _ _ H _ ⟨h, rfl, F, N⟩)
    | str i => exact Constant_str (ih _ _ _ _ _ H _ ⟨h, rfl, F, N⟩)
    | none => exact Constant_none (ih _ _ _ _ _ H _ ⟨h, rfl, F, N⟩)
    | bool b => exact Constant_bool (ih _ _ _ _ _ H _ ⟨h, rfl, F, N⟩)
    | bytes b => exact Constant_bytes (ih _ _ _ _ _ H _ ⟨h, rfl, F, N⟩)
    | _ => exact Ob.run H _ hR
  | BinOp l op r pos => exact wpAny_BinOp (ih _ _ _ _ _ H _ hR)
  | UnaryOp op x pos => exact UnaryOp_ (ih _ _ _ _ _ H _ hR)
  | IfExp t b o pos => exact IfExp_ (ih _ _ _ _ _ H _ hR)
  | BoolOp op l pos =>
    cases l with
    | nil => exact Ob.run H _ hR
    | cons e r =>
      cases r with
      | nil => exact BoolOp_one (ih _ _ _ _ _ H _ hR)
      | cons e2 r =>
        cases op with
        | And => exact BoolOp_and (ih _ _ _ _ _ H _ hR)
        | Or => exact BoolOp_or (ih _ _ _ _ _ H _ hR)
  | Compare l ops rs pos =>
    cases ops with
    | nil => exact Ob.run H _ hR
    | cons op ops =>
      cases ops with
      | cons _ _ => exact Ob.run H _ hR
      | nil =>
        cases rs with
        | nil => exact Ob.run H _ hR
        | cons r rs =>
          cases rs with
          | cons _ _ => exact Ob.run H _ hR
          | nil => exact IfB.elim2 H (fun _ H => Ob.run H _ hR) (fun hm H => wpAny_Compare1 (ih _ _ _ _ _ H _ hR) hm)
  | Call f args kw pos =>
    cases kw with
    | cons _ _ => exact Ob.run H _ hR
    | nil =>
      refine IfB.elim H (fun hs H => ?_) (fun H => Ob.run H _ hR)
      cases f with
      | Attribute o name apos =>
        exact IfB.elim H (fun hm H => MethodCall_ (wpAny_mono (ih _ _ _ _ _ H _ hR) (fun ov s1 h1 => h1 _) fun _ _ e => e) (meth_he hm hs _ _)) (fun H => Ob.run H _ hR)
      | Name x p => exact Call_ (ih _ _ _ _ _ H _ hR) rfl
      | _ => exact Ob.run H _ hR
  | Attribute o name pos =>
    refine IfB.elim H (fun hb H => ?_) (fun H => Ob.run H _ hR)
    refine Attribute_any_ (ih _ _ _ _ _ H _ hR) ?_
    show (do
      let x ← attributeBase o name X.env (eval o X.env)
      standAt pos.atName
      let r ← holding [x] (getAttr x name true)
      letTemporaryGo o x r
      pure r) = _
    rw [base_no hb]
  | Tuple l k pos => exact Tuple_ (ih _ _ _ _ _ H _ hR)
  | List l pos => exact List_ (ih _ _ _ _ _ H _ hR)
  | Subscript o i pos => exact Subscript_ (ih _ _ _ _ _ H _ hR)
  | _ => exact Ob.run H s hR
theorem condS_ok (ih : ∀ t K ml ns tk, rec t K ml ns tk → ∀ s, X.R ml ns tk s → sem X t K s) {e : PySem.Expr} {K : List Kf} {ml : Ml} {ns : News'} {tk : Nat} (H : condS X rec e K ml ns tk) (s : Shared) (hR : X.R ml ns tk s) : sem X (.cond e) K s := by
  cases e with
  | UnaryOp op x pos =>
    cases op with
    | Not => exact isTrue_not (ih _ _ _ _ _ H _ hR)
    | _ => exact Ob.run H _ hR
  | BoolOp op l pos =>
    cases op with
    | And => cases l with
      | nil => exact isTrue_and_nil (ih _ _ _ _ _ H _ hR)
      | cons e r => exact isTrue_and (ih _ _ _ _ _ H _ hR)
    | Or => cases l with
      | nil => exact isTrue_or_nil (ih _ _ _ _ _ H _ hR)
      | cons e r => exact isTrue_or (ih _ _ _ _ _ H _ hR)
  | IfExp t b o pos => exact isTrue_IfExp (ih _ _ _ _ _ H _ hR)
  | Compare l ops rs pos =>
    cases ops with
    | nil => exact Ob.run H _ hR
    | cons op ops =>
      cases ops with
      | cons _ _ => exact Ob.run H _ hR
      | nil =>
        cases rs with
        | nil => exact Ob.run H _ hR
        | cons r rs =>
          cases rs with
          | cons _ _ => exact Ob.run H _ hR
          | nil => exact IfB.elim2 H (fun _ H => Ob.run H _ hR) (fun hm H => wpAny_isTrue_Compare1 (ih _ _ _ _ _ H _ hR) hm)
  | Name x pos => exact isTrue_plain (ih _ _ _ _ _ H _ hR)
  | Call f a k pos => exact isTrue_plain (ih _ _ _ _ _ H _ hR)
  | Attribute o n pos => exact isTrue_plain (ih _ _ _ _ _ H _ hR)
  | Subscript o i pos => exact isTrue_plain (ih _ _ _ _ _ H _ hR)
  | _ => exact Ob.run H s hR
theorem execS_ok (ih : ∀ t K ml ns tk, rec t K ml ns tk → ∀ s, X.R ml ns tk s → sem X t K s) {e : Stmt} {K : List Kf} {ml : Ml} {ns : News'} {tk : Nat} (H : execS X rec e K ml ns tk) (s : Shared) (hR : X.R ml ns tk s) : sem X (.exec e) K s := by
  cases e with
  | Return e pos =>
    cases e with
    | some e => exact wpAny_Return_some (ih _ _ _ _ _ H _ hR)
    | none => exact wpAny_Return_none (ih _ _ _ _ _ H _ hR)
  | Assign ts e pos =>
    cases ts with
    | nil => exact Ob.run H _ hR
    | cons t ts =>
      cases ts with
      | cons _ _ => exact Ob.run H _ hR
      | nil =>
        refine IfB.elim H (fun hn H => ?_) (fun H => Ob.run H _ hR)
        cases t with
        | Name x p => exact wpAny_Assign_Name (ih _ _ _ _ _ H _ hR) (swaps_no hn _ _ _)
        | Attribute o attr p => exact plainObj_wpAny_Assign_Attribute (ih _ _ _ _ _ H _ hR) (swaps_no hn _ _ _)
        | Subscript o i p => exact wpAny_Assign_Subscript (ih _ _ _ _ _ H _ hR) (swaps_no hn _ _ _)
        | Tuple elts k p =>
          cases e with
          | Tuple es n q =>
            exact IfB.elim H (fun hf H => Assign_Tuple (ih _ _ _ _ _ H _ hR) (swapsSole_no hn _ _ _) (stores_no hf _)) (fun H => Ob.run H _ hR)
          | _ => exact Ob.run H _ hR
        | _ => exact Ob.run H _ hR
  | If t b o pos => exact wpAny_If (ih _ _ _ _ _ H _ hR)
  | For t it body o pos =>
    cases t with
    | Name x p =>
      cases o with
      | nil => exact IfB.elim H (fun h H => For_invV X.h₀ (kind_is X (isLoc_is (and_r h))) (by show (sc.cs.kind == .class || (sc.cs.kind == .module && _)) = false; rw [X.hk]; rfl) (ih _ _ _ _ _ H _ hR) (fold_no (and_l h) _) X.pass) (fun H => Ob.run H _ hR)
      | cons _ _ => exact Ob.run H _ hR
    | _ => exact Ob.run H _ hR
  | Expr e pos => exact IfB.elim H (fun hn H => wpAny_Expr_any (ih _ _ _ _ _ H _ hR) (by simp only [interactive]; rw [X.hk]; rfl) (swaps_no hn _ _ _)) (fun H => Ob.run H _ hR)
  | _ => exact Ob.run H s hR
theorem argS_ok (ih : ∀ t K ml ns tk, rec t K ml ns tk → ∀ s, X.R ml ns tk s → sem X t K s) {pos : Pos} {l : List PySem.Expr} {K : List Kf} {ml : Ml} {ns : News'} {tk : Nat} (H : argS X rec pos l K ml ns tk) (s : Shared) (hR : X.R ml ns tk s) : sem X (.args pos l) K s := by
  cases l with
  | nil => exact args_nil (ih _ _ _ _ _ H _ hR)
  | cons e r =>
    exact IfB.elim H (fun h H => args_cons (ih _ _ _ _ _ H _ hR) (star_no h _ _)) (fun H => Ob.run H _ hR)
theorem binS_elim {op : Operator} {a b : Value} {K : List Kf} {ml : Ml} {ns : News'} {tk : Nat} (H : binS X rec op a b K ml ns tk) :
    (∃ i t j u, a = .int i t ∧ b = .int j u ∧ ((op = .Add ∧ rec (.ret (.v (.int (i + j) tk))) K ml ns tk.succ) ∨ (op = .Sub ∧ rec (.ret (.v (.int (i - j) tk))) K ml ns tk.succ))) ∨ Ob X (.bin op a b) K ml ns tk := by
  cases a with
  | int i t =>
    cases b with
    | int j u =>
      cases op with
      | Add => exact .inl ⟨i, t, j, u, rfl, rfl, .inl ⟨rfl, H⟩⟩
      | Sub => exact .inl ⟨i, t, j, u, rfl, rfl, .inr ⟨rfl, H⟩⟩
      | _ => exact .inr H
    | _ => exact .inr H
  | _ => exact .inr H
theorem binS_ok (ih : ∀ t K ml ns tk, rec t K ml ns tk → ∀ s, X.R ml ns tk s → sem X t K s) {op : Operator} {a b : Value} {K : List Kf} {ml : Ml} {ns : News'} {tk : Nat} (H : binS X rec op a b K ml ns tk) (s : Shared) (hR : X.R ml ns tk s) : sem X (.bin op a b) K s := by
  rcases binS_elim H with ⟨i, t, j, u, rfl, rfl, ⟨rfl, H⟩ | ⟨rfl, H⟩⟩ | H
  · obtain ⟨h, rfl, F, N⟩ := hR
    exact add_int (ih _ _ _ _ _ H _ ⟨h, rfl, F, N⟩)
  · obtain ⟨h, rfl, F, N⟩ := hR
    exact sub_int (ih _ _ _ _ _ H _ ⟨h, rfl, F, N⟩)
  · exact Ob.run H _ hR
theorem cmpS_ok (ih : ∀ t K ml ns tk, rec t K ml ns tk → ∀ s, X.R ml ns tk s → sem X t K s) {op : CmpOp} {a b : Value} {K : List Kf} {ml : Ml} {ns : News'} {tk : Nat} (H : cmpS X rec op a b K ml ns tk) (s : Shared) (hR : X.R ml ns tk s) : sem X (.cmp op a b) K s := by
  cases a with
  | int i t =>
    cases b with
    | int j u =>
      cases op with
      | Eq => exact eq_int (ih _ _ _ _ _ H _ hR)
      | Lt => exact lt_int (ih _ _ _ _ _ H _ hR)
      | Gt => exact gt_int (ih _ _ _ _ _ H _ hR)
      | _ => exact Ob.run H _ hR
    | _ => exact Ob.run H _ hR
  | str i t =>
    cases b with
    | str j u =>
      cases op with
      | Eq => exact eq_str (ih _ _ _ _ _ H _ hR)
      | NotEq => exact ne_str (ih _ _ _ _ _ H _ hR)
      | _ => exact Ob.run H _ hR
    | _ => exact Ob.run H _ hR
  | ref i =>
    cases b with
    | none =>
      cases op with
      | Is => exact is_ref_none (ih _ _ _ _ _ H _ hR)
      | IsNot => exact isnot_ref_none (ih _ _ _ _ _ H _ hR)
      | _ => exact Ob.run H _ hR
    | _ => exact Ob.run H _ hR
  | none =>
    cases b with
    | none =>
      cases op with
      | Is => exact is_none_none (ih _ _ _ _ _ H _ hR)
      | IsNot => exact isnot_none_none (ih _ _ _ _ _ H _ hR)
      | _ => exact Ob.run H _ hR
    | _ => exact Ob.run H _ hR
  | bytes x t =>
    cases b with
    | none =>
      cases op with
      | Is => exact is_bytes_none (ih _ _ _ _ _ H _ hR)
      | _ => exact Ob.run H _ hR
    | _ => exact Ob.run H _ hR
  | _ => exact Ob.run H _ hR
theorem unoS_ok (ih : ∀ t K ml ns tk, rec t K ml ns tk → ∀ s, X.R ml ns tk s → sem X t K s) {op : UnaryOp} {v : Value} {K : List Kf} {ml : Ml} {ns : News'} {tk : Nat} (H : unoS X rec op v K ml ns tk) (s : Shared) (hR : X.R ml ns tk s) : sem X (.uno op v) K s := by
  cases v with
  | bool b =>
    cases op with
    | Not => exact PyProof.Rows.not_of (wpAny_truthy_bool (ih _ _ _ _ _ H _ hR))
    | _ => exact Ob.run H _ hR
  | int i t =>
    cases op with
    | USub =>
      obtain ⟨h, rfl, F, N⟩ := hR
      exact PyProof.Rows.neg_int (ih _ _ _ _ _ H _ ⟨h, rfl, F, N⟩)
    | _ => exact Ob.run H _ hR
  | _ => exact Ob.run H _ hR
theorem truS_ok (ih : ∀ t K ml ns tk, rec t K ml ns tk → ∀ s, X.R ml ns tk s → sem X t K s) {v : Value} {K : List Kf} {ml : Ml} {ns : News'} {tk : Nat} (H : truS X rec v K ml ns tk) (s : Shared) (hR : X.R ml ns tk s) : sem X (.tru v) K s := by
  cases v with
  | bool b => exact wpAny_truthy_bool (ih _ _ _ _ _ H _ hR)
  | none => exact truthy_none (ih _ _ _ _ _ H _ hR)
  | _ => exact Ob.run H _ hR
theorem retS_ok (ih : ∀ t K ml ns tk, rec t K ml ns tk → ∀ s, X.R ml ns tk s → sem X t K s) {r : Res} {K : List Kf} {ml : Ml} {ns : News'} {tk : Nat} (H : retS X rec r K ml ns tk) (s : Shared) (hR : X.R ml ns tk s) : sem X (.ret r) K s := by
  cases K with
  | nil =>
    cases r with
    | f fl =>
      obtain ⟨h, rfl, F, N⟩ := id hR
      have H' : End X ns (flowV fl) := by cases fl <;> exact H
      obtain ⟨ns', sub, p⟩ := H'.run
      exact X.done _ _ _ _ _ F (fun x hx => N x (sub x hx)) p
    | _ => exact H.elim
  | cons k K =>
    cases r with
    | v v =>
      cases k with
      | asg x =>
        refine IfB.elim H (fun hx H => ?_) (fun h => h.elim)
        obtain ⟨h, rfl, F, N⟩ := id hR
        refine storeX_L F N (fun h' F' N' => ?_) X.hk (kind_is X (isLoc_is hx))
        exact ih _ _ _ _ _ H _ ⟨h', rfl, by rw [lk_put]; exact F', N'⟩
      | asgB _ _ => exact Ob.run H _ hR
      | asgT _ _ _ => exact Ob.run H _ hR
      | asgW _ _ => exact Ob.run H _ hR
      | subC _ _ => exact Ob.run H _ hR
      | subA _ _ => exact ih _ _ _ _ _ H _ hR
      | subB _ _ => exact ih _ _ _ _ _ H _ hR
      | attr _ => exact Ob.run H _ hR
      | meth _ _ _ => exact Ob.run H _ hR
      | forK _ _ => exact Ob.run H _ hR
      | qv _ => exact Ob.run H _ hR
      | callE _ _ => exact Ob.run H _ hR
      | subR _ _ _ => exact Ob.run H _ hR
      | binL _ _ => exact ih _ _ _ _ _ H _ hR
      | binR _ _ => exact ih _ _ _ _ _ H _ hR
      | cmpL _ _ => exact ih _ _ _ _ _ H _ hR
      | cmpR _ _ => exact ih _ _ _ _ _ H _ hR
      | uno _ => exact ih _ _ _ _ _ H _ hR
      | tru => exact ih _ _ _ _ _ H _ hR
      | retK => exact ih _ _ _ _ _ H _ hR
      | asgA _ _ => exact ih _ _ _ _ _ H _ hR
      | boolV op e r pos => exact ih _ _ _ _ _ H _ hR
      | argK _ _ => exact ih _ _ _ _ _ H _ hR
      | subL _ _ => exact ih _ _ _ _ _ H _ hR
      | dropK => exact ih _ _ _ _ _ H _ hR
      | _ => exact H.elim
    | vs l =>
      cases k with
      | callK f first =>
        obtain ⟨h, rfl, F, N⟩ := id hR
        refine ⟨X.X.keeps F.keep, ?_⟩
        cases first with
        | nil => exact Ob.run H _ hR
        | cons x r =>
          cases r with
          | nil => exact Ob.run H _ hR
          | cons y r => exact Ob.run H _ hR
      | tupK => exact Ob.run H _ hR
      | lstK => exact Ob.run H _ hR
      | consK v => exact ih _ _ _ _ _ H _ hR
      | _ => exact H.elim
    | b b =>
      cases k with
      | boolT op v e r pos =>
        cases op <;> cases b <;> exact ih _ _ _ _ _ H _ hR
      | whT t l =>
        cases b with
        | true => exact ih _ _ _ _ _ H _ hR
        | false => exact wpAny_execs_nil (ih _ _ _ _ _ H _ hR)
      | ifS _ _ => cases b <;> exact ih _ _ _ _ _ H _ hR
      | notB => cases b <;> exact ih _ _ _ _ _ H _ hR
      | andB _ _ => cases b <;> exact ih _ _ _ _ _ H _ hR
      | orB _ _ => cases b <;> exact ih _ _ _ _ _ H _ hR
      | ifE _ _ => cases b <;> exact ih _ _ _ _ _ H _ hR
      | ifC _ _ => cases b <;> exact ih _ _ _ _ _ H _ hR
      | _ => exact H.elim
    | f fl =>
      cases k with
      | seq rest =>
        cases fl <;> exact ih _ _ _ _ _ H _ hR
      | whB t l =>
        cases fl with
        | next => exact Ob.run H _ hR
        | cont => exact Ob.run H _ hR
        | brk => exact ih _ _ _ _ _ H _ hR
        | ret v => exact ih _ _ _ _ _ H _ hR
      | forB I it lp x body r =>
        cases fl with
        | next => exact Ob.run H _ hR
        | cont => exact Ob.run H _ hR
        | brk => exact ih _ _ _ _ _ H _ hR
        | ret v => exact ih _ _ _ _ _ H _ hR
      | q _ => exact Ob.run H _ hR
      | _ => exact H.elim
theorem stepP_ok (ih : ∀ t K ml ns tk, rec t K ml ns tk → ∀ s, X.R ml ns tk s → sem X t K s) {t : Tk} {K : List Kf} {ml : Ml} {ns : News'} {tk : Nat} (H : stepP X rec t K ml ns tk) (s : Shared) (hR : X.R ml ns tk s) : sem X t K s := by
  cases t with
  | ev e => exact evS_ok ih H s hR
  | cond e => exact condS_ok ih H s hR
  | args pos l => exact argS_ok ih H s hR
  | exec st => exact execS_ok ih H s hR
  | block l =>
    cases l with
    | nil => exact wpAny_execs_nil (ih _ _ _ _ _ H _ hR)
    | cons _ _ => exact wpAny_execs_cons (ih _ _ _ _ _ H _ hR)
  | ret r => exact retS_ok ih H s hR
  | bin op a b => exact binS_ok ih H s hR
  | cmp op a b => exact cmpS_ok ih H s hR
  | tru v => exact truS_ok ih H s hR
  | uno op v => exact unoS_ok ih H s hR
  | _ => exact Ob.run H s hR
theorem go_ok : ∀ (n : Nat) (t : Tk) (K : List Kf) (ml : Ml) (ns : News') (tk : Nat), go X n t K ml ns tk → ∀ s, X.R ml ns tk s → sem X t K s
  | 0, _, _, _, _, _, H => H.elim
  | n + 1, _, _, _, _, _, H => stepP_ok (go_ok n) H
theorem zipA_no {x : Str} : ∀ {l : List Arg} {vs : List Value}, keyIn x l = false → lk (zipA l vs) x = none
  | [], _, _ => by simp [zipA, lk]
  | ⟨_, _, _⟩ :: _, [], _ => rfl
  | ⟨y, _, _⟩ :: r, v :: vs, h => by
    revert h
    show (match sq y x with | true => true | false => keyIn x r) = false → (match sq y x with | true => some v | false => lk (zipA r vs) x) = none
    cases sq y x with
    | true => exact fun h => nomatch h
    | false => exact zipA_no
theorem zipA_look {y : Str} : ∀ {l : List Arg} {vs : List Value}, keysApart l = true → (zipA l vs).reverse.lookup y = lk (zipA l vs) y
  | [], _, _ => by simp [zipA, lk]
  | ⟨x, a, p⟩ :: r, [], _ => rfl
  | ⟨x, a, p⟩ :: r, v :: vs, h => by
    revert h
    show (match keyIn x r with | true => false | false => keysApart r) = true → (((x, v) :: zipA r vs).reverse).lookup y = (match sq x y with | true => some v | false => lk (zipA r vs) y)
    cases h1 : keyIn x r with
    | true => exact fun h => nomatch h
    | false =>
      intro h
      rw [List.reverse_cons, List.lookup_append, zipA_look h, sq_eq]
      by_cases e : x = y
      · subst e
        simp [zipA_no (vs := vs) h1]
      · have : (y == x) = false := beq_eq_false_iff_ne.mpr (Ne.symm e)
        simp [e, List.lookup_cons, this]
/-- a def by its body -/
theorem con_byD {G : Gl} {f : Addr} {vs : List Value} {news : News'} {D U : Nat} {post : News' → Value → Prop} (vs' : List Value) {name qual : Str} {params : Arguments} {body : List Stmt} {scope : Scope} {dV kV doc pm cdv ct oc : Value} {an od : Option Addr} {osl : Array (Option Value)}
    (ho : (KN G.w.params).lookup f = some ⟨oc, od, .func (fnOf name qual params body scope dV kV doc pm an cdv ct), osl⟩) (hcd : codeIn (KN G.w.params) cdv qual = true)
    (hbind : ∀ s : Shared, (KN G.w.params).In s.heap → BindsTo s (fnOf name qual params body scope dV kV doc pm an cdv ct) ⟨vs, []⟩ (zipA params.args vs'))
    (hap : keysApart params.args = true) (hloc : ∀ x ∈ zipA params.args vs', scope.names.lookup x.1 = some .local)
    (hco : scope.isCoroutine = false) (hgen : scope.isGenerator = false) (hk : scope.kind = .function) (hcell : ∀ x ∈ scope.names, x.2 ≠ .cell)
    (hnd : lk scope.names ⟨⟨[95, 95, 100, 101, 98, 117, 103, 95, 95]⟩⟩ = none)
    (H : ∀ (X : Xx G ⟨scope, D, U, cdv⟩) (tk : Nat), (∀ ns v, post ns v → End X ns v) → go X 300 (.block body) [] (zipA params.args vs') news tk) :
    Con G f vs news D U post := by
  intro dp un gd cn cs a ccd cl outer A₀ base h₀ L m s Q E B F X N T hck hd hu hret
  refine wpAny_call ?_
  refine code_def (K := KN G.w.params) B F X N T rfl rfl hck ho hcd (by ktr_room) (hbind s (X.keeps F.keep)) hloc (fun g L' h₁ FG F' N' B' X' T' => ?_) hco hgen hk hcell
  let R : Result → Shared → Prop := fun r s' => match r with | .ok (.ret v) => Q v s' | .ok _ => False | .error e => E e s'
  let env : Env := envOf qual scope L' f cdv
  let A1 : Around := ktrTop dp un gd cn cs L a ccd cl outer
  let Z : Xx G ⟨scope, D, U, cdv⟩ := {
    A := A1.deeper env, h₀ := g, L := L', cn := qual, a := f, s0 := s, P := post
    E := fun e s' => wpAny (model PX G.w) (A1.deeper env) (leaving env e) (fun _ s'' => R (.error e) s'') (fun e' s'' => R (.error e') s'') s'
    fin := fun fl s' => LeaveK h₀ L m g R (flowV fl) s'
    site := site_gen (A₀ := ktrTop dp un gd cn cs L a ccd cl outer) rfl B' hk hd hu
    X := X', T := T', pass := PassesOwn.leaving, hh := rfl, hk := hk, nd := hnd
    done := fun fl h tk m' ns F₂ N₂ p => leaveK_ (s' := ⟨h, s.gens, s.drawn, tk, s.os⟩) F₂ N₂ fun F₃ N₃ => hret (flowV fl) ns h tk F₃ N₃ p }
  refine go_ok (X := Z) 300 (.block body) [] (zipA params.args vs') news (s.toks + (zipA params.args vs').length) (H Z _ fun ns v h => ⟨ns, fun _ h => h, h⟩) _ ⟨h₁, rfl, ?_, N'⟩
  have e : (fun y => (zipA params.args vs').reverse.lookup y) = lk (zipA params.args vs') := by
    funext y; exact zipA_look hap
  exact e ▸ F'
end
end Mine
end
noncomputable section
open PySem PySem.W PyProof.Rows PySem.Calls
set_option Elab.async false
set_option maxRecDepth 100000
namespace Mine
noncomputable abbrev sSign : Str := ⟨⟨[115, 105, 103, 110]⟩⟩
noncomputable abbrev sWord : Str := ⟨⟨[119, 111, 114, 100]⟩⟩
noncomputable abbrev sNumber : Str := ⟨⟨[110, 117, 109, 98, 101, 114]⟩⟩
noncomputable abbrev sLiteral : Str := ⟨⟨[108, 105, 116, 101, 114, 97, 108]⟩⟩
noncomputable abbrev sPlus : Str := ⟨⟨[43]⟩⟩
noncomputable abbrev sMinus : Str := ⟨⟨[45]⟩⟩
noncomputable abbrev sLpar : Str := ⟨⟨[40]⟩⟩
noncomputable abbrev sRpar : Str := ⟨⟨[41]⟩⟩
noncomputable abbrev sColon : Str := ⟨⟨[58]⟩⟩
noncomputable abbrev sDot : Str := ⟨⟨[46]⟩⟩
noncomputable abbrev sStar : Str := ⟨⟨[42]⟩⟩
noncomputable abbrev sSlash : Str := ⟨⟨[47]⟩⟩
noncomputable abbrev sPow : Str := ⟨⟨[42, 42]⟩⟩
noncomputable abbrev wDISPLAY : Str := ⟨⟨[68, 73, 83, 80, 76, 65, 89]⟩⟩
noncomputable abbrev wNO : Str := ⟨⟨[78, 79]⟩⟩
noncomputable abbrev wADVANCING : Str := ⟨⟨[65, 68, 86, 65, 78, 67, 73, 78, 71]⟩⟩
noncomputable abbrev wWITH : Str := ⟨⟨[87, 73, 84, 72]⟩⟩
noncomputable abbrev wALL : Str := ⟨⟨[65, 76, 76]⟩⟩
noncomputable abbrev wOF : Str := ⟨⟨[79, 70]⟩⟩
noncomputable abbrev wIN : Str := ⟨⟨[73, 78]⟩⟩
noncomputable abbrev wOFIN : Str := ⟨⟨[79, 70, 32, 73, 78]⟩⟩
noncomputable abbrev sEmpty : Str := ⟨⟨[]⟩⟩
noncomputable abbrev sSpace : Str := ⟨⟨[32]⟩⟩
noncomputable def isK (ts : Toks) (i : Nat) (kd : Str) : Bool := match ts[i]? with
  | some x => x.1 == kd
  | none => false
noncomputable def isKW (ts : Toks) (i : Nat) (kd wo : Str) : Bool := match ts[i]? with
  | some x => x.1 == kd && x.2 == wo
  | none => false
end Mine
end
noncomputable section
open PySem PySem.W PyProof.Rows PySem.Calls
set_option Elab.async false
set_option maxRecDepth 100000
namespace Mine
noncomputable def setAt (l : News') (d : Addr) (o : Obj) : News' := l.map fun x => if x.1 = d then (d, o) else x
theorem setAt_keys (l : News') (d : Addr) (o : Obj) : (setAt l d o).map (·.1) = l.map (·.1) := by
  unfold setAt
  rw [List.map_map]
  refine List.map_congr_left fun x _ => ?_
  show (if x.1 = d then (d, o) else x).1 = x.1
  split
  · rename_i h; exact h.symm
  · rfl
theorem setAt_off {l : News'} {d : Addr} {o : Obj} (h : ∀ x ∈ l, x.1 ≠ d) : setAt l d o = l := by
  unfold setAt
  conv => rhs; rw [← List.map_id l]
  exact List.map_congr_left fun x hx => if_neg (h x hx)
theorem mem_setAt {l : News'} {d : Addr} {o : Obj} {x : Addr × Obj} (h : x ∈ l) (hn : x.1 ≠ d) : x ∈ setAt l d o := List.mem_map.mpr ⟨x, h, if_neg hn⟩
theorem mem_setAt_self {l : News'} {d : Addr} {o o' : Obj} (h : (d, o) ∈ l) : (d, o') ∈ setAt l d o' := List.mem_map.mpr ⟨_, h, if_pos rfl⟩
theorem upd_at {l : News'} {d : Addr} {o o' : Obj} (hn : (l.map (·.1)).Nodup) (h : (d, o) ∈ l) : Upd d o o' l (setAt l d o') := by
  induction l with
  | nil => cases h
  | cons p r ih =>
    rw [List.map_cons, List.nodup_cons] at hn
    rcases List.mem_cons.mp h with rfl | h
    · have ne : ∀ q ∈ r, q.1 ≠ d := fun q hq e => hn.1 (List.mem_map.mpr ⟨q, hq, e⟩)
      have : setAt ((d, o) :: r) d o' = (d, o') :: r := by
        show (if (d, o).1 = d then (d, o') else (d, o)) :: setAt r d o' = _
        rw [if_pos rfl, setAt_off ne]
      rw [this]
      exact .head ne
    · have np : p.1 ≠ d := fun e => hn.1 (List.mem_map.mpr ⟨_, h, e.symm⟩)
      have : setAt (p :: r) d o' = p :: setAt r d o' := by
        show (if p.1 = d then (d, o') else p) :: setAt r d o' = _
        rw [if_neg np]
      rw [this]
      exact .tail np (ih hn.2 h)
theorem updF_at {l : News'} {d : Addr} {o : Obj} (hn : (l.map (·.1)).Nodup) (h : (d, o) ∈ l) : ∃ g, UpdF d o l g ∧ ∀ o', g o' = setAt l d o' := by
  induction l with
  | nil => cases h
  | cons p r ih =>
    rw [List.map_cons, List.nodup_cons] at hn
    rcases List.mem_cons.mp h with rfl | h
    · have ne : ∀ q ∈ r, q.1 ≠ d := fun q hq e => hn.1 (List.mem_map.mpr ⟨q, hq, e⟩)
      refine ⟨_, .head ne, fun o' => ?_⟩
      show _ = (if (d, o).1 = d then (d, o') else (d, o)) :: setAt r d o'
      rw [if_pos rfl, setAt_off ne]
    · have np : p.1 ≠ d := fun e => hn.1 (List.mem_map.mpr ⟨_, h, e.symm⟩)
      obtain ⟨g, U, e⟩ := ih hn.2 h
      refine ⟨_, .tail np U, fun o' => ?_⟩
      show p :: g o' = (if p.1 = d then (d, o') else p) :: setAt r d o'
      rw [if_neg np, e]
theorem same_at {l : News'} (hn : (l.map (·.1)).Nodup) {a : Addr} {o o' : Obj} (h : (a, o) ∈ l) (h' : (a, o') ∈ l) : o = o' := by
  induction l with
  | nil => cases h
  | cons p r ih =>
    rw [List.map_cons, List.nodup_cons] at hn
    rcases List.mem_cons.mp h with e1 | h1
    · rcases List.mem_cons.mp h' with e2 | h2
      · exact (Prod.mk.inj (e1.trans e2.symm)).2
      · exact absurd (List.mem_map.mpr ⟨_, h2, by rw [← e1]⟩) hn.1
    · rcases List.mem_cons.mp h' with e2 | h2
      · exact absurd (List.mem_map.mpr ⟨_, h1, by rw [← e2]⟩) hn.1
      · exact ih hn.2 h1 h2
theorem ne_at {l : News'} (hn : (l.map (·.1)).Nodup) {a b : Addr} {o o' : Obj} (h : (a, o) ∈ l) (h' : (b, o') ∈ l) (ne : o ≠ o') : a ≠ b := fun e => ne (same_at hn h (e ▸ h'))
theorem tokD_ne (tp : TP) (kd wo : Str) (q : RP) (p : Int) (pt : Tok) : tokD tp kd wo ≠ rdD q p pt := by
  intro e
  have := congrArg Obj.data e
  simp only [Data.dict.injEq, Array.mk.injEq, List.cons.injEq, DictEntry.mk.injEq, Value.str.injEq] at this
  exact absurd this.1.1.2.1.1 (by decide +kernel)
/-- all but the place stays -/
noncomputable def Keeps (news news' : News') (d : Addr) : Prop := ∀ x ∈ news, x.1 ≠ d → x.1 ≠ 232 → x ∈ news'
theorem Keeps.refl (news : News') (d : Addr) : Keeps news news d := fun _ h _ _ => h
theorem Keeps.trans {a b c : News'} {d : Addr} (h : Keeps a b d) (h' : Keeps b c d) : Keeps a c d := fun x hx n n' => h' x (h x hx n n') n n'
noncomputable def MV (news : News') (r : Addr) (q : RP) (ts : Toks) (p : Nat) (news' : News') : Prop := ∃ pt, RS news' r q ts p pt ∧ Keeps news news' q.dr
theorem con_mv {G : Gl} {f : Addr} {vs : List Value} {news : News'} {D U D0 U0 : Nat}
    {A : Around} {h₀ : Heap} {L : Addr} {m : Str → Option Value} {s : Shared} {Q E : Value → Shared → Prop} {r : Addr} {q : RP} {ts : Toks} {p₀ : Nat} {x : Value}
    (C : Con G f vs news D U (fun n v => MV news r q ts p₀ n ∧ v = x)) (B : Site A L h₀ D0 U0) (F : Fr h₀ L s.heap m) (X : (KN G.w.params).In h₀) (N : News h₀ L s.heap news) (T : Top topProg G.loose G.mean G.mg G.mb h₀) (hd : Nat.ble (D + 1) D0 = true) (hu : Nat.ble (U + 3) U0 = true)
    (ret : ∀ pt n' h' tk', Fr h₀ L h' m → News h₀ L h' n' → RS n' r q ts p₀ pt → Keeps news n' q.dr → Q x { s with heap := h', toks := tk' }) : wpAny (model PySem.Challenge.rw_qd0103_01.prog G.w) A (call (.ref f) vs) Q E s :=
  con_site C B F X N T hd hu fun _ _ h tk F' N' p => by obtain ⟨⟨pt, R, K⟩, rfl⟩ := p; exact ret pt _ _ _ F' N' R K
theorem con_mvv {G : Gl} {f : Addr} {vs : List Value} {news : News'} {D U D0 U0 : Nat}
    {A : Around} {h₀ : Heap} {L : Addr} {m : Str → Option Value} {s : Shared} {Q E : Value → Shared → Prop} {r : Addr} {q : RP} {ts : Toks} {p₀ : Nat} {g : Tok → Value}
    (C : Con G f vs news D U (fun n v => MV news r q ts p₀ n ∧ ∃ t, v = g t)) (B : Site A L h₀ D0 U0) (F : Fr h₀ L s.heap m) (X : (KN G.w.params).In h₀) (N : News h₀ L s.heap news) (T : Top topProg G.loose G.mean G.mg G.mb h₀) (hd : Nat.ble (D + 1) D0 = true) (hu : Nat.ble (U + 3) U0 = true)
    (ret : ∀ pt t n' h' tk', Fr h₀ L h' m → News h₀ L h' n' → RS n' r q ts p₀ pt → Keeps news n' q.dr → Q (g t) { s with heap := h', toks := tk' }) : wpAny (model PySem.Challenge.rw_qd0103_01.prog G.w) A (call (.ref f) vs) Q E s :=
  con_site C B F X N T hd hu fun _ _ h tk F' N' p => by obtain ⟨⟨pt, R, K⟩, t, rfl⟩ := p; exact ret pt t _ _ _ F' N' R K
theorem con_mvtok {G : Gl} {f : Addr} {vs : List Value} {news : News'} {D U D0 U0 : Nat}
    {A : Around} {h₀ : Heap} {L : Addr} {m : Str → Option Value} {s : Shared} {Q E : Value → Shared → Prop} {r : Addr} {q : RP} {ts : Toks} {p₀ : Nat} {kd wo : Str}
    (C : Con G f vs news D U (fun n v => MV news r q ts p₀ n ∧ ∃ t tp, v = .ref t ∧ TokAt n t tp kd wo)) (B : Site A L h₀ D0 U0) (F : Fr h₀ L s.heap m) (X : (KN G.w.params).In h₀) (N : News h₀ L s.heap news) (T : Top topProg G.loose G.mean G.mg G.mb h₀) (hd : Nat.ble (D + 1) D0 = true) (hu : Nat.ble (U + 3) U0 = true)
    (ret : ∀ pt t tp n' h' tk', Fr h₀ L h' m → News h₀ L h' n' → RS n' r q ts p₀ pt → Keeps news n' q.dr → TokAt n' t tp kd wo → Q (.ref t) { s with heap := h', toks := tk' }) : wpAny (model PySem.Challenge.rw_qd0103_01.prog G.w) A (call (.ref f) vs) Q E s :=
  con_site C B F X N T hd hu fun _ _ h tk F' N' p => by obtain ⟨⟨pt, R, K⟩, t, tp, rfl, z⟩ := p; exact ret pt t tp _ _ _ F' N' R K z
section
variable {news : News'} {r : Addr} {q : RP} {ts : Toks} {p : Nat} {pt : Tok}
theorem RS.ne (R : RS news r q ts p pt) {a : Addr} {o : Obj} (h : (a, o) ∈ news) (hn : ∀ p pt, o ≠ rdD q p pt) : a ≠ q.dr := ne_at R.nodup h R.dict (hn _ _)
theorem inst_ne (C dx : Addr) (q : RP) (p : Int) (pt : Tok) : instObj C dx ≠ rdD q p pt := fun e => by cases congrArg Obj.cls e
theorem lst_ne (its : Array Value) (n : Nat) (q : RP) (p : Int) (pt : Tok) : lstO its n ≠ rdD q p pt := fun e => by
  have := congrArg Obj.cls e
  simp at this
theorem tab_inst (C dx : Addr) (ps : Array Value) : instObj C dx ≠ tabObj ps := fun e => by
  have := congrArg Obj.data e
  cases this
theorem tab_lst (its : Array Value) (n : Nat) (ps : Array Value) : lstO its n ≠ tabObj ps := fun e => by
  have := congrArg Obj.data e
  cases this
theorem tab_tok (tp : TP) (kd wo : Str) (ps : Array Value) : tokD tp kd wo ≠ tabObj ps := fun e => by
  have := congrArg Obj.data e
  cases this
theorem tab_rd (q : RP) (p : Int) (pt : Tok) (ps : Array Value) : rdD q p pt ≠ tabObj ps := fun e => by
  have := congrArg Obj.data e
  cases this
theorem RS.neT (R : RS news r q ts p pt) {a : Addr} {o : Obj} (h : (a, o) ∈ news) (hn : ∀ ps, o ≠ tabObj ps) : a ≠ 232 := by
  obtain ⟨ps, m, _⟩ := R.tab
  exact ne_at R.nodup h m (hn _)
theorem RS.kept {news' : News'} {p' : Nat} {pt' : Tok} (R : RS news r q ts p pt) (K : Keeps news news' q.dr) (hd : (q.dr, rdD q p' pt') ∈ news') (hn : (news'.map (·.1)).Nodup) (hp : p' ≤ ts.length) (hT : TabOk news') : RS news' r q ts p' pt' := by
  obtain ⟨its, n, hl, hs, ht⟩ := R.list
  refine ⟨K _ R.inst (R.ne R.inst fun _ _ => inst_ne _ _ _ _ _) (R.neT R.inst fun _ => tab_inst _ _ _), hd, ⟨its, n, K _ hl (R.ne hl fun _ _ => lst_ne _ _ _ _ _) (R.neT hl fun _ => tab_lst _ _ _), hs, fun i k w e => ?_⟩, hn, R.small, hp, hT⟩
  obtain ⟨t, tp, h1, h2⟩ := ht i k w e
  exact ⟨t, tp, h1, K _ h2.inst (R.ne h2.inst fun _ _ => inst_ne _ _ _ _ _) (R.neT h2.inst fun _ => tab_inst _ _ _), K _ h2.dict (R.ne h2.dict fun _ _ => tokD_ne _ _ _ _ _ _) (R.neT h2.dict fun _ => tab_tok _ _ _ _)⟩
theorem keeps_setAt (d : Addr) (o : Obj) : Keeps news (setAt news d o) d := fun _ h n _ => mem_setAt h n
theorem tab_setAt (R : RS news r q ts p pt) (o : Obj) : TabOk (setAt news q.dr o) := by
  obtain ⟨ps, m, h⟩ := R.tab
  exact ⟨ps, mem_setAt m (R.ne m fun _ _ => (tab_rd _ _ _ _).symm), h⟩
theorem RS.move (R : RS news r q ts p pt) (p' : Nat) (pt' : Tok) (hp : p' ≤ ts.length) : MV news r q ts p' (setAt news q.dr (rdD q p' pt')) :=
  ⟨pt', R.kept (keeps_setAt _ _) (mem_setAt_self R.dict) (by rw [setAt_keys]; exact R.nodup) hp (tab_setAt R _), keeps_setAt _ _⟩
theorem TokAt.kept {news' : News'} {t : Addr} {tp : TP} {k w : Str} (h : TokAt news t tp k w) (R : RS news r q ts p pt) (K : Keeps news news' q.dr) : TokAt news' t tp k w :=
  ⟨K _ h.inst (R.ne h.inst fun _ _ => inst_ne _ _ _ _ _) (R.neT h.inst fun _ => tab_inst _ _ _), K _ h.dict (R.ne h.dict fun _ _ => tokD_ne _ _ _ _ _ _) (R.neT h.dict fun _ => tab_tok _ _ _ _)⟩
theorem TabOk.cons {x : Addr × Obj} (h : TabOk news) : TabOk (x :: news) := by
  obtain ⟨ps, m, h⟩ := h
  exact ⟨ps, .tail _ m, h⟩
end
theorem AllLt.all {d : Addr} : ∀ {l : News'}, AllLt d l → ∀ p ∈ l, p.1 < d
  | [], _, _, h => nomatch h
  | _ :: _, x, p, h => by
    rcases List.mem_cons.mp h with rfl | h
    · exact x.1
    · exact AllLt.all x.2 p h
section
variable {news : News'} {r : Addr} {q : RP} {ts : Toks} {p : Nat} {pt : Tok}
theorem RS.cons {a : Addr} {o : Obj} (l : ∀ x ∈ news, x.1 < a) (R : RS news r q ts p pt) : RS ((a, o) :: news) r q ts p pt := by
  obtain ⟨its, n, hl, hs, ht⟩ := R.list
  refine ⟨.tail _ R.inst, .tail _ R.dict, ⟨its, n, .tail _ hl, hs, fun i k w e => ?_⟩, ?_, R.small, R.here, R.tab.cons⟩
  · obtain ⟨t, tp, h1, h2⟩ := ht i k w e
    exact ⟨t, tp, h1, .tail _ h2.inst, .tail _ h2.dict⟩
  · rw [List.map_cons, List.nodup_cons]
    refine ⟨fun h => ?_, R.nodup⟩
    obtain ⟨x, hx, e⟩ := List.mem_map.mp h
    exact absurd (l x hx) (by rw [e]; exact Nat.lt_irrefl _)
end
end Mine
end
noncomputable section
open PySem PySem.W PyProof.Rows PySem.Calls
set_option Elab.async false
set_option maxRecDepth 100000
namespace Mine
theorem fill_V2 (P : Params) : PySem.Challenge.rw_qd0103_01 = PySem.Challenge.rw_qd0103_01 ∧ KN P = KN P := by
  k_fill
  exact ⟨rfl, rfl⟩
/-- a word that is one part alone -/
noncomputable abbrev One (wd : Str) : Prop := Txt.split wd sSpace = [wd] ∧ wd.length + 2 ≤ sizeLine
theorem con_by {G : Gl} {f : Addr} {vs : List Value} {news : News'} {D U : Nat} {post : News' → Value → Prop} {name qual : Str} {params : Arguments} {body : List Stmt} {scope : Scope} {dV kV doc pm cdv ct oc : Value} {an od : Option Addr} {osl : Array (Option Value)}
    (ho : (KN G.w.params).lookup f = some ⟨oc, od, .func (fnOf name qual params body scope dV kV doc pm an cdv ct), osl⟩) (hcd : codeIn (KN G.w.params) cdv qual = true)
    (hbind : ∀ s : Shared, (KN G.w.params).In s.heap → BindsTo s (fnOf name qual params body scope dV kV doc pm an cdv ct) ⟨vs, []⟩ (zipA params.args vs))
    (hap : keysApart params.args = true) (hloc : ∀ x ∈ zipA params.args vs, scope.names.lookup x.1 = some .local)
    (hco : scope.isCoroutine = false) (hgen : scope.isGenerator = false) (hk : scope.kind = .function) (hcell : ∀ x ∈ scope.names, x.2 ≠ .cell)
    (hnd : lk scope.names ⟨⟨[95, 95, 100, 101, 98, 117, 103, 95, 95]⟩⟩ = none)
    (H : ∀ (X : Xx G ⟨scope, D, U, cdv⟩) (tk : Nat), (∀ ns v, post ns v → End X ns v) → go X 300 (.block body) [] (zipA params.args vs) news tk) :
    Con G f vs news D U post := con_byD vs ho hcd hbind hap hloc hco hgen hk hcell hnd H
theorem IfB.yes {b : Bool} {P Q : Prop} (e : b = true) (h : P) : IfB b P Q := by subst e; exact h
theorem IfB.no {b : Bool} {P Q : Prop} (e : b = false) (h : Q) : IfB b P Q := by subst e; exact h
theorem IfB.both {b : Bool} {P Q : Prop} (h : b = true → P) (h' : b = false → Q) : IfB b P Q := by
  cases b with
  | true => exact h rfl
  | false => exact h' rfl
theorem plain_any {env : Env} {pos : Pos} : ∀ {l : List PySem.Expr}, noStars l = true → (backTo pos (starEach l env)).any (·.1) = false
  | [], _ => rfl
  | e :: r, h => by
    rw [star_no (and_l h)]
    exact plain_any (l := r) (and_r h)
theorem stars_split {e : PySem.Expr} {r : List PySem.Expr} (h : noStars (e :: r) = true) : notStar e = true ∧ noStars r = true := ⟨and_l h, and_r h⟩
theorem getL_no {h : Int} {x name : Str} {t : Tok} {v : Value} {r : List DictEntry} (e : sq x name = false) : getL name (⟨h, .str x t, v⟩ :: r) = getL name r := by
  rw [sq_eq] at e
  have e' : (x == name) = false := beq_eq_false_iff_ne.mpr (of_decide_eq_false e)
  have k : (DictEntry.refKey ⟨h, .str x t, v⟩) = false := rfl
  unfold getL
  simp only [List.find?_cons, Value.isStr, e', List.any_cons, k, Bool.false_or]
theorem getL_yes {h : Int} {name : Str} {t : Tok} {v : Value} {r : List DictEntry} : getL name (⟨h, .str name t, v⟩ :: r) = some (some v) := by
  unfold getL
  simp only [List.find?_cons, Value.isStr, beq_self_eq_true]
noncomputable def rdNo (name : Str) : Bool := !sq (Str.ofString "tokens") name && (!sq (Str.ofString "at") name && (!sq (Str.ofString "named") name && !sq (Str.ofString "shared") name))
theorem not_t {b : Bool} (h : (!b) = true) : b = false := by
  cases b with
  | true => exact nomatch h
  | false => rfl
theorem rd_none {q : RP} {p : Int} {pt : Tok} {name : Str} (h : rdNo name = true) : getL name [⟨q.h1, .str (Str.ofString "tokens") q.k1, .ref q.tl⟩, ⟨q.h2, .str (Str.ofString "at") q.k2, .int p pt⟩, ⟨q.h3, .str (Str.ofString "named") q.k3, .ref q.nm⟩, ⟨q.h4, .str (Str.ofString "shared") q.k4, .ref q.sh⟩] = some none := by
  rw [getL_no (not_t (and_l h)), getL_no (not_t (and_l (and_r h))), getL_no (not_t (and_l (and_r (and_r h)))), getL_no (not_t (and_r (and_r (and_r h))))]; rfl
structure MethOf (P : Params) (C : Addr) (name : Str) (f : Addr) : Prop where
  hg : plainGet (KN P) C name = true
  hf : findIn (KN P) (.ref C) name = some (some (.ref f))
  ht : isFn (KN P) (.ref f) = true
  hk : keepIn (KN P) (.ref f) = true
structure AttrOf (P : Params) (C : Addr) (name : Str) : Prop where
  hg : plainGet (KN P) C name = true
  hd : hasDictIn (KN P) C = true
  hf : ∃ attr, findIn (KN P) (.ref C) name = some attr ∧ noGet (KN P) attr = true
section
variable {G : Gl} {sc : Sc} {X : Xx G sc} {K : List Kf} {ml : Ml} {ns : News'} {tk : Nat}
theorem Ob.less {t : Tk} {ns' : News'} (s : ∀ x ∈ ns', x ∈ ns) (h : Ob X t K ml ns' tk) : Ob X t K ml ns tk :=
  ⟨fun _ hR => by
    obtain ⟨h₁, rfl, F, N⟩ := hR
    exact h.run _ ⟨h₁, rfl, F, fun x hx => N x (s x hx)⟩⟩
theorem End.less {v : Value} {ns' : News'} (s : ∀ x ∈ ns', x ∈ ns) (h : End X ns' v) : End X ns v := by
  obtain ⟨n, s', p⟩ := h.run
  exact ⟨n, fun x hx => s x (s' x hx), p⟩
theorem den_of {r : Res} {s : Shared} {h : Heap} (F : Fr X.h₀ X.L h (lk ml)) (N : News X.h₀ X.L h ns) (H : go X 300 (.ret r) K ml ns tk) : den X K r { X.s0 with heap := h, toks := tk } := go_ok _ _ _ _ _ _ H _ ⟨h, rfl, F, N⟩
theorem ob_call {f : Addr} {vs : List Value} {D U : Nat} {post : News' → Value → Prop} (C : Con G f vs ns D U post) (hd : Nat.ble (D + 1) sc.D = true) (hu : Nat.ble (U + 3) sc.U = true)
    (ret : ∀ v n' tk', post n' v → go X 300 (.ret (.v v)) K ml n' tk') : Ob X (.call (.ref f) vs) K ml ns tk :=
  ⟨fun s hR => by
    obtain ⟨h, rfl, F, N⟩ := hR
    exact con_site C X.site F X.X N X.T hd hu fun v n' h' tk' F' N' p => go_ok _ _ _ _ _ _ (ret v n' tk' p) _ ⟨h', rfl, F', N'⟩⟩
theorem ob_val {f : Addr} {vs : List Value} {D U : Nat} {x : Value} (C : Con G f vs ns D U (fun n v => n = ns ∧ v = x)) (hd : Nat.ble (D + 1) sc.D = true) (hu : Nat.ble (U + 3) sc.U = true)
    (ret : ∀ tk', go X 300 (.ret (.v x)) K ml ns tk') : Ob X (.call (.ref f) vs) K ml ns tk :=
  ob_call C hd hu fun v n' tk' p => by obtain ⟨rfl, rfl⟩ := p; exact ret tk'
theorem ob_valt {f : Addr} {vs : List Value} {D U : Nat} {g : Tok → Value} (C : Con G f vs ns D U (fun n v => n = ns ∧ ∃ t, v = g t)) (hd : Nat.ble (D + 1) sc.D = true) (hu : Nat.ble (U + 3) sc.U = true)
    (ret : ∀ t tk', go X 300 (.ret (.v (g t))) K ml ns tk') : Ob X (.call (.ref f) vs) K ml ns tk :=
  ob_call C hd hu fun v n' tk' p => by obtain ⟨rfl, t, rfl⟩ := p; exact ret t tk'
theorem ob_tok {f : Addr} {vs : List Value} {D U : Nat} {kd wo : Str} (C : Con G f vs ns D U (fun n v => n = ns ∧ ∃ t tp, v = .ref t ∧ TokAt ns t tp kd wo)) (hd : Nat.ble (D + 1) sc.D = true) (hu : Nat.ble (U + 3) sc.U = true)
    (ret : ∀ t tp tk', TokAt ns t tp kd wo → go X 300 (.ret (.v (.ref t))) K ml ns tk') : Ob X (.call (.ref f) vs) K ml ns tk :=
  ob_call C hd hu fun v n' tk' p => by obtain ⟨rfl, t, tp, rfl, z⟩ := p; exact ret t tp tk' z
theorem ob_mv {f : Addr} {vs : List Value} {D U : Nat} {x : Value} {r : Addr} {q : RP} {ts : Toks} {p₀ : Nat} (C : Con G f vs ns D U (fun n v => MV ns r q ts p₀ n ∧ v = x)) (hd : Nat.ble (D + 1) sc.D = true) (hu : Nat.ble (U + 3) sc.U = true)
    (ret : ∀ pt n' tk', RS n' r q ts p₀ pt → Keeps ns n' q.dr → go X 300 (.ret (.v x)) K ml n' tk') : Ob X (.call (.ref f) vs) K ml ns tk :=
  ob_call C hd hu fun v n' tk' p => by obtain ⟨⟨pt, R, k⟩, rfl⟩ := p; exact ret pt n' tk' R k
theorem ob_mvv {f : Addr} {vs : List Value} {D U : Nat} {g : Tok → Value} {r : Addr} {q : RP} {ts : Toks} {p₀ : Nat} (C : Con G f vs ns D U (fun n v => MV ns r q ts p₀ n ∧ ∃ t, v = g t)) (hd : Nat.ble (D + 1) sc.D = true) (hu : Nat.ble (U + 3) sc.U = true)
    (ret : ∀ pt t n' tk', RS n' r q ts p₀ pt → Keeps ns n' q.dr → go X 300 (.ret (.v (g t))) K ml n' tk') : Ob X (.call (.ref f) vs) K ml ns tk :=
  ob_call C hd hu fun v n' tk' p => by obtain ⟨⟨pt, R, k⟩, t, rfl⟩ := p; exact ret pt t n' tk' R k
theorem ob_mvtok {f : Addr} {vs : List Value} {D U : Nat} {kd wo : Str} {r : Addr} {q : RP} {ts : Toks} {p₀ : Nat} (C : Con G f vs ns D U (fun n v => MV ns r q ts p₀ n ∧ ∃ t tp, v = .ref t ∧ TokAt n t tp kd wo)) (hd : Nat.ble (D + 1) sc.D = true) (hu : Nat.ble (U + 3) sc.U = true)
    (ret : ∀ pt t tp n' tk', RS n' r q ts p₀ pt → Keeps ns n' q.dr → TokAt n' t tp kd wo → go X 300 (.ret (.v (.ref t))) K ml n' tk') : Ob X (.call (.ref f) vs) K ml ns tk :=
  ob_call C hd hu fun v n' tk' p => by obtain ⟨⟨pt, R, k⟩, t, tp, rfl, z⟩ := p; exact ret pt t tp n' tk' R k z
theorem ob_fn {f : Addr} {first : List Value} {pos : Pos} {args : List PySem.Expr} (hk : keepIn (KN G.w.params) (.ref f) = true) (hs : noStars args = true)
    (h : go X 300 (.args pos args) (.callK (.ref f) first :: K) ml ns tk) : Ob X (.callF (.ref f) first pos args) K ml ns tk :=
  ⟨fun _ hR => by
    have z := go_ok _ _ _ _ _ _ h _ hR
    cases args with
    | nil =>
      obtain ⟨h, rfl, F, N⟩ := hR
      exact callWith_K0 (X.X.keeps F.keep) hk (fun Γ p hΓ => And.right (z Γ p hΓ) Γ p hΓ)
    | cons e r => exact callWith_K X.X hk z (star_no (stars_split hs).1 _ _) (plain_any (stars_split hs).2)⟩
theorem ob_fnB {id : String} {pos : Pos} {e : PySem.Expr} {args : List PySem.Expr} (hs : noStars (e :: args) = true)
    (h : go X 300 (.args pos (e :: args)) (.callK (.builtin id) [] :: K) ml ns tk) : Ob X (.callF (.builtin id) [] pos (e :: args)) K ml ns tk :=
  ⟨fun s hR => callWith_builtin1 (wpAny_mono (go_ok _ _ _ _ _ _ h s hR) (fun _ _ h => h.2) fun _ _ e => e) (star_no (stars_split hs).1 _ _) (plain_any (stars_split hs).2)⟩
theorem ob_meth {x d C f : Addr} {es : List DictEntry} {n : Nat} {name : Str} {pos : Pos} {args : List PySem.Expr} (M : MethOf G.w.params C name f) (h1 : (x, instObj C d) ∈ ns) (h2 : (d, dictOf es n) ∈ ns) (hl : getL name es = some none) (hs : noStars args = true)
    (h : go X 300 (.args pos args) (.callK (.ref f) [.ref x] :: K) ml ns tk) : Ob X (.meth (.ref x) name args pos) K ml ns tk :=
  ⟨fun s hR pl => by
    have z := Ob.run (ob_fn (X := X) (K := K) (f := f) (first := [.ref x]) (pos := pos) M.hk hs h) s hR
    obtain ⟨h, rfl, F, N⟩ := hR
    exact method_inst F X.X (InstAt.of_news N h1 h2) M.hg M.hf M.ht hl z⟩
theorem ob_attr {x d C : Addr} {es : List DictEntry} {n : Nat} {name : Str} {v : Value} (M : AttrOf G.w.params C name) (h1 : (x, instObj C d) ∈ ns) (h2 : (d, dictOf es n) ∈ ns) (hl : getL name es = some (some v)) (hh : handedIn v = true)
    (h : go X 300 (.ret (.v v)) K ml ns tk.succ) : Ob X (.attr (.ref x) name) K ml ns tk :=
  ⟨fun s hR => by
    obtain ⟨h₁, rfl, F, N⟩ := hR
    obtain ⟨attr, e1, e2⟩ := M.hf
    exact get_own F X.X (InstAt.of_news N h1 h2) M.hg M.hd e1 e2 hl hh (go_ok _ _ _ _ _ _ h _ ⟨h₁, rfl, F, N⟩)⟩
theorem ob_glob {x : Str} {pos : Pos} {v : Value} (e : nsIn (KN G.w.params) mainGlobals x = some (some v)) (hx : lk sc.cs.names x = some .globalImplicit)
    (h : go X 300 (.ret (.v v)) K ml ns tk) : Ob X (.ev (.Name x pos)) K ml ns tk :=
  ⟨fun s hR => by
    have z := go_ok _ _ _ _ _ _ h s hR
    obtain ⟨h₁, rfl, F, N⟩ := hR
    exact nameX_K F X.X (topRead_of X.T) e z X.hk (by rw [← hx, lk_eq]; rfl) (X.not_dbg hx)⟩
theorem ob_globB {x : Str} {pos : Pos} {v : Value} (e : nsIn (KN G.w.params) mainGlobals x = some none) (hv : bootBuiltins x = some v) (hn : x ≠ "__name__") (hx : lk sc.cs.names x = some .globalImplicit)
    (h : go X 300 (.ret (.v v)) K ml ns tk) : Ob X (.ev (.Name x pos)) K ml ns tk :=
  ⟨fun s hR => by
    have z := go_ok _ _ _ _ _ _ h s hR
    obtain ⟨h₁, rfl, F, N⟩ := hR
    exact nameX_B F X.X (topRead_of X.T) e hv hn z X.hk (by rw [← hx, lk_eq]; rfl) (X.not_dbg hx)⟩
theorem ob_len {l : Addr} {its : Array Value} {n : Nat} (hm : (l, lstO its n) ∈ ns) (hf : (its.size : Int) < 2 ^ 63) (h : go X 300 (.ret (.v (.int its.size tk.succ))) K ml ns tk.succ.succ) : Ob X (.call (.builtin "len") [.ref l]) K ml ns tk :=
  ⟨fun s hR => by
    obtain ⟨h₁, rfl, F, N⟩ := hR
    exact len_at (isList_news N hm) hf (go_ok _ _ _ _ _ _ h _ ⟨h₁, rfl, F, N⟩)⟩
theorem ob_item {l : Addr} {its : Array Value} {n : Nat} {value slice : PySem.Expr} {k : Int} {u : Tok} {v : Value} (hm : (l, lstO its n) ∈ ns) (h0 : 0 ≤ k) (h1 : k < 2 ^ 63) (hx : its[k.toNat]? = some v)
    (hs : subscripted slice false (.ref l) (.int k u) = operate [.ref l, .int k u] (getItem (.ref l) (.int k u))) (h : go X 300 (.ret (.v v)) K ml ns tk) : Ob X (.sub value slice (.ref l) (.int k u)) K ml ns tk :=
  ⟨fun s hR => by
    obtain ⟨h₁, rfl, F, N⟩ := hR
    exact item_at (isList_news N hm) h0 h1 hx (go_ok _ _ _ _ _ _ h _ ⟨h₁, rfl, F, N⟩) hs⟩
noncomputable abbrev tupO (its : Array Value) : Obj := ⟨.type "tuple", none, .seq its, #[]⟩
theorem ob_tup {vs : List Value} (hz : Nat.ble vs.length 100 = true) (h : ∀ D, (∀ x ∈ ns, x.1 < D) → go X 300 (.ret (.v (.ref D))) K ml ((D, tupO vs.toArray) :: ns) tk) : Ob X (.tup vs) K ml ns tk :=
  ⟨fun s hR => by
    obtain ⟨h₁, rfl, F, N⟩ := hR
    exact kup_newTuple F N (fun D h' F' N' l => go_ok _ _ _ _ _ _ (h D l) _ ⟨h', rfl, F', N'⟩) (Nat.le_trans (Nat.le_of_ble_eq_true hz) (by decide))⟩
theorem ob_lst {vs : List Value} (hz : Nat.ble vs.length 100 = true) (h : ∀ D, (∀ x ∈ ns, x.1 < D) → go X 300 (.ret (.v (.ref D))) K ml ((D, lstO vs.toArray 0) :: ns) tk) : Ob X (.lst vs) K ml ns tk :=
  ⟨fun s hR => by
    obtain ⟨h₁, rfl, F, N⟩ := hR
    exact newList_N F N (fun h' F' N' => go_ok _ _ _ _ _ _ (h _ fun x hx => Heap.lt_size (N x hx).1) _ ⟨h', rfl, F', N'⟩) (Nat.le_trans (Nat.le_of_ble_eq_true hz) (by decide))⟩
theorem ob_addS {x y : Str} {t u : Tok} {k l : Nat} (hx : x.length ≤ k) (hy : y.length ≤ l) (hs : k + l ≤ 16777216) (h : ∀ t' tk', (x ++ y).length ≤ k + l → go X 300 (.ret (.v (.str (x ++ y) t'))) K ml ns tk') : Ob X (.bin .Add (.str x t) (.str y u)) K ml ns tk :=
  ⟨fun s hR => by
    obtain ⟨h₁, rfl, F, N⟩ := hR
    exact KXadd.add hx hy hs fun t' k e => go_ok _ _ _ _ _ _ (h t' k (Nat.le_trans e.2 (Nat.add_le_add hx hy))) _ ⟨h₁, rfl, F, N⟩⟩
theorem ob_inS {x y : Str} {t u : Tok} (h : go X 300 (.ret (.v (.bool (!(Builtin.Str.occurrences x y 0 x.length 1).isEmpty)))) K ml ns tk) : Ob X (.cmp .In (.str y u) (.str x t)) K ml ns tk :=
  ⟨fun s hR => in_str (go_ok _ _ _ _ _ _ h s hR)⟩
theorem ob_fnT {id : String} {pos : Pos} {e : PySem.Expr} {args : List PySem.Expr} (hs : noStars (e :: args) = true)
    (h : go X 300 (.args pos (e :: args)) (.callK (.type id) [] :: K) ml ns tk) : Ob X (.callF (.type id) [] pos (e :: args)) K ml ns tk :=
  ⟨fun s hR => callWith_type1 (wpAny_mono (go_ok _ _ _ _ _ _ h s hR) (fun _ _ h => h.2) fun _ _ e => e) (star_no (stars_split hs).1 _ _) (plain_any (stars_split hs).2)⟩
theorem store_go {x : Str} {v : Value} {Q : Unit → Shared → Prop} {s : Shared} (hx : lk sc.cs.names x = some .local) (hR : X.R ml ns tk s) (h : ∀ s', X.R (put ml x v) ns tk.succ s' → Q () s') : X.wp (storeName X.env x v) Q s := by
  obtain ⟨h₁, rfl, F, N⟩ := hR
  exact storeX_L F N (fun h' F' N' => h _ ⟨h', rfl, by rw [lk_put]; exact F', N'⟩) X.hk (by rw [← hx, lk_eq]; rfl)
theorem ob_unp {x y : Str} {p q : Pos} {k : Nat} {pos : Pos} {t : Addr} {a b : Value} (hm : (t, tupO #[a, b]) ∈ ns) (hx : lk sc.cs.names x = some .local) (hy : lk sc.cs.names y = some .local)
    (h : go X 300 (.ret (.f .next)) K (put (put ml x a) y b) ns tk.succ.succ) : Ob X (.unp [.Name x p, .Name y q] k pos (.ref t)) K ml ns tk :=
  ⟨fun s hR => by
    obtain ⟨h₁, rfl, F, N⟩ := hR
    refine unpackN_ F N (News.isTup N hm) X.hh rfl rfl fun h' F' N' => ?_
    refine assignInOrder_cons (PyProof.Rows.assign_Name (store_go hx ⟨h', rfl, F', N'⟩ fun s2 hR2 => ?_))
    refine assignInOrder_cons (PyProof.Rows.assign_Name (store_go hy hR2 fun s3 hR3 => ?_))
    exact assignInOrder_nil (go_ok _ _ _ _ _ _ h _ hR3)⟩
theorem ob_asgW {elts es : List PySem.Expr} {k n : Nat} {p q pos : Pos} {x y : Str} (hw : swappedStores [.Tuple elts k p] (.Tuple es n q) X.env = pure (some [x, y])) (h : go X 300 (.ev (.Tuple es n q)) (.asgW x y :: K) ml ns tk) : Ob X (.exec (.Assign [.Tuple elts k p] (.Tuple es n q) pos)) K ml ns tk :=
  ⟨fun s hR => Assign_Tuple_swapped (names := [_, _]) (go_ok _ _ _ _ _ _ h s hR) (swapsSole_no rfl _ _ _) hw⟩
theorem ob_unpW {x y : Str} {t : Addr} {a b : Value} (hm : (t, tupO #[a, b]) ∈ ns) (hx : lk sc.cs.names x = some .local) (hy : lk sc.cs.names y = some .local)
    (h : go X 300 (.ret (.f .next)) K (put (put ml y b) x a) ns tk.succ.succ) : Ob X (.unpW x y (.ref t)) K ml ns tk :=
  ⟨fun s hR => by
    obtain ⟨h₁, rfl, F, N⟩ := hR
    refine unpackItemsN_ F N (News.isTup N hm) X.hh rfl fun h' F' N' => ?_
    refine assignInOrder_cons (bindName_ (store_go hy ⟨h', rfl, F', N'⟩ fun s2 hR2 => ?_))
    refine assignInOrder_cons (bindName_ (store_go hx hR2 fun s3 hR3 => ?_))
    exact assignInOrder_nil (go_ok _ _ _ _ _ _ h _ hR3)⟩
theorem ob_appM {l : Addr} {its : Array Value} {n : Nat} {pos : Pos} {e : PySem.Expr} {args : List PySem.Expr} (hm : (l, lstO its n) ∈ ns) (hs : noStars (e :: args) = true) (h : go X 300 (.args pos (e :: args)) (.callK (.builtin "list.append") [.ref l] :: K) ml ns tk) : Ob X (.meth (.ref l) ⟨⟨[97, 112, 112, 101, 110, 100]⟩⟩ (e :: args) pos) K ml ns tk :=
  ⟨fun s hR pl => by
    have z := go_ok _ _ _ _ _ _ h s hR
    obtain ⟨h₁, rfl, F, N⟩ := hR
    rw [sw_append]
    exact getMethod_append_N N hm (callWith_method1 (wpAny_mono z (fun _ _ h => h.2) fun _ _ e => e) (star_no (stars_split hs).1 _ _) (plain_any (stars_split hs).2))⟩
theorem ob_append {l : Addr} {its : Array Value} {n : Nat} {v : Value} {n' : News'} (hu : Upd l (lstO its n) (lstO (its.push v) (n + 1)) ns n') (hz : its.size ≤ sizeLine) (h : go X 300 (.ret (.v .none)) K ml n' tk) : Ob X (.call (.builtin "list.append") [.ref l, v]) K ml ns tk :=
  ⟨fun s hR => by
    obtain ⟨h₁, rfl, F, N⟩ := hR
    exact append_K F N hu (fun h' F' N' => go_ok _ _ _ _ _ _ h _ ⟨h', rfl, F', N'⟩) hz⟩
theorem ob_tupleOf {l : Addr} {its : Array Value} {n : Nat} {zs : List Value} (hm : (l, lstO its n) ∈ ns) (e : its.toList = zs) (hz : its.size ≤ 16384) (h : ∀ D, (∀ x ∈ ns, x.1 < D) → go X 300 (.ret (.v (.ref D))) K ml ((D, tupO zs.toArray) :: ns) tk) : Ob X (.call (.type "tuple") [.ref l]) K ml ns tk :=
  ⟨fun s hR => by
    obtain ⟨h₁, rfl, F, N⟩ := hR
    exact kde_tupleOf F N (isList_news N hm) hz e fun D h' F' N' l => go_ok _ _ _ _ _ _ (h D l) _ ⟨h', rfl, F', N'⟩⟩
theorem ob_while {t : PySem.Expr} {b : List Stmt} {pos : Pos} (h : go X 300 (.cond t) (.whT t b :: K) ml ns tk) : Ob X (.exec (.While t b [] pos)) K ml ns tk :=
  ⟨fun s hR => whl_start 1 (whl_turn (k := 0) X.pass (go_ok _ _ _ _ _ _ h s hR))⟩
theorem ob_turn {t : PySem.Expr} {b : List Stmt} (h : go X 300 (.cond t) (.whT t b :: K) ml ns tk) : Ob X (.ret (.f .next)) (.whB t b :: K) ml ns tk :=
  ⟨fun s hR => whl_turn (k := 0) X.pass (go_ok _ _ _ _ _ _ h s hR)⟩
/-- a loop over a list of the ledger, item by item -/
noncomputable def ForR (X : Xx G sc) (I : Addr) (lp : Addr × Obj) (x : Str) (body : List Stmt) (K : List Kf) : List Value → Ml → News' → Prop
  | [], ml, ns => ∀ tk, go X 300 (.ret (.f .next)) K ml ns tk
  | v :: r, ml, ns => ∀ it tk, it.cls = .type "list_iterator" → go X 300 (.block body) (.forB I it lp x body r :: K) (put ml x v) ((I, it) :: ns) tk
theorem lr_eq {prog : Program} {w : World} {A : Around} {E : Value → Shared → Prop} {h₁ : Heap} {env : Env} {x : Str} {body : List Stmt} {Q : Flow → Shared → Prop} {s : Shared} {h₀ : Heap} {t₀ : Nat} {I : Addr} {lp : Addr × Obj} : ∀ vs : List Value, ListRest prog w A E h₁ env x body Q { s with heap := h₀, toks := t₀ } I lp vs = ListRest prog w A E h₁ env x body Q s I lp vs
  | [] => rfl
  | v :: r => by
    funext m ns
    unfold ListRest
    rw [lr_eq r]
theorem forR_ok {I : Addr} {lp : Addr × Obj} {x : Str} {body : List Stmt} : ∀ {vs : List Value} {ml : Ml} {ns : News'}, ForR X I lp x body K vs ml ns → ListRest PX G.w X.A X.E X.h₀ X.env x body (fun f => den X K (.f f)) X.s0 I lp vs (lk ml) ns
  | [], _, _, h => fun h₁ tk F N => go_ok _ _ _ _ _ _ (h tk) _ ⟨h₁, rfl, F, N⟩
  | v :: r, ml, _, h => fun it h₁ tk hc F N => go_ok _ _ _ _ _ _ (h it tk hc) _ ⟨h₁, rfl, by rw [lk_put]; exact F, N⟩
theorem ob_forL {l : Addr} {vs : List Value} {n : Nat} {x : Str} {body : List Stmt} (hm : (l, lstO vs.toArray n) ∈ ns) (h : ∀ I, (∀ p ∈ ns, p.1 < I) → ForR X I (l, lstO vs.toArray n) x body K vs ml ns) : Ob X (.forL (.ref l) x body) K ml ns tk :=
  ⟨fun s hR => by
    obtain ⟨h₁, rfl, F, N⟩ := hR
    exact iter_listUnr X.hh F N hm rfl rfl fun I l => by rw [lr_eq]; exact forR_ok (h I l)⟩
theorem ob_forE {I : Addr} {it : Obj} {lp : Addr × Obj} {x : Str} {body : List Stmt} {r : List Value} {n' : News'} (hI : (I, it) ∈ ns) (sub : ∀ p ∈ n', p ∈ ns) (off : ∀ p ∈ n', p.1 ≠ I) (hl : lp ∈ n') (h : ForR X I lp x body K r ml n') : Ob X (.ret (.f .next)) (.forB I it lp x body r :: K) ml ns tk :=
  ⟨fun s hR => by
    obtain ⟨h₁, rfl, F, N⟩ := hR
    refine ⟨h₁, tk, lk ml, n', rfl, F, fun p hp => ?_, off, hl, forR_ok h⟩
    rcases List.mem_cons.mp hp with rfl | hp
    · exact N _ hI
    · exact N _ (sub p hp)⟩
theorem ob_splitM {x : Str} {t : Tok} {pos : Pos} {e : PySem.Expr} {args : List PySem.Expr} (hs : noStars (e :: args) = true) (h : go X 300 (.args pos (e :: args)) (.callK (.builtin "str.split") [.str x t] :: K) ml ns tk) : Ob X (.meth (.str x t) ⟨⟨[115, 112, 108, 105, 116]⟩⟩ (e :: args) pos) K ml ns tk :=
  ⟨fun s hR pl => by
    rw [sw_split]
    exact GM.split (callWith_method1 (wpAny_mono (go_ok _ _ _ _ _ _ h s hR) (fun _ _ h => h.2) fun _ _ e => e) (star_no (stars_split hs).1 _ _) (plain_any (stars_split hs).2))⟩
theorem ob_split {x : Str} {t u : Tok} (hz : x.length + 2 ≤ sizeLine) (h : ∀ D l tk', l.map (·.1) = Txt.split x ⟨⟨[32]⟩⟩ → (∀ p ∈ ns, p.1 < D) → go X 300 (.ret (.v (.ref D))) K ml ((D, lstO (strValues l).toArray 0) :: ns) tk') : Ob X (.call (.builtin "str.split") [.str x t, .str ⟨⟨[32]⟩⟩ u]) K ml ns tk :=
  ⟨fun s hR => by
    obtain ⟨h₁, rfl, F, N⟩ := hR
    exact KSpl.split1 F N (by decide) (fun D l h' k e _ F' N' b => go_ok _ _ _ _ _ _ (h D l k e b) _ ⟨h', rfl, F', N'⟩) hz⟩
theorem ob_split1 {x : Str} {t u : Tok} (e : Txt.split x ⟨⟨[32]⟩⟩ = [x]) (hz : x.length + 2 ≤ sizeLine) (h : ∀ D k tk', (∀ p ∈ ns, p.1 < D) → go X 300 (.ret (.v (.ref D))) K ml ((D, lstO #[.str x k] 0) :: ns) tk') : Ob X (.call (.builtin "str.split") [.str x t, .str ⟨⟨[32]⟩⟩ u]) K ml ns tk :=
  ob_split hz fun D l tk' e' b => by
    rw [e] at e'
    match l, e' with
    | [(y, k)], e' =>
      simp only [List.map_cons, List.map_nil, List.cons.injEq, and_true] at e'
      subst e'
      exact h D k tk' b
theorem ob_split2 {x a c : Str} {t u : Tok} (e : Txt.split x ⟨⟨[32]⟩⟩ = [a, c]) (hz : x.length + 2 ≤ sizeLine) (h : ∀ D k k' tk', (∀ p ∈ ns, p.1 < D) → go X 300 (.ret (.v (.ref D))) K ml ((D, lstO #[.str a k, .str c k'] 0) :: ns) tk') : Ob X (.call (.builtin "str.split") [.str x t, .str ⟨⟨[32]⟩⟩ u]) K ml ns tk :=
  ob_split hz fun D l tk' e' b => by
    rw [e] at e'
    match l, e' with
    | [(y, k), (z, k')], e' =>
      simp only [List.map_cons, List.map_nil, List.cons.injEq, and_true] at e'
      obtain ⟨rfl, rfl⟩ := e'
      exact h D k k' tk' b
end
theorem b_len : bootBuiltins ⟨⟨[108, 101, 110]⟩⟩ = some (.builtin "len") := by rw [sw_len]; boot_by_name
theorem b_range : bootBuiltins ⟨⟨[114, 97, 110, 103, 101]⟩⟩ = some (.type "range") := by rw [sw_range]; boot_by_name
theorem b_abs : bootBuiltins ⟨⟨[97, 98, 115]⟩⟩ = some (.builtin "abs") := by rw [sw_abs]; boot_by_name
theorem b_int : bootBuiltins ⟨⟨[105, 110, 116]⟩⟩ = some (.type "int") := by rw [sw_int]; boot_by_name
theorem b_sum : bootBuiltins ⟨⟨[115, 117, 109]⟩⟩ = some (.builtin "sum") := by rw [sw_sum]; boot_by_name
theorem b_tuple : bootBuiltins ⟨⟨[116, 117, 112, 108, 101]⟩⟩ = some (.type "tuple") := by rw [sw_tuple]; boot_by_name
theorem b_enumerate : bootBuiltins ⟨⟨[101, 110, 117, 109, 101, 114, 97, 116, 101]⟩⟩ = some (.type "enumerate") := by rw [sw_enumerate]; boot_by_name
theorem b_bytes : bootBuiltins ⟨⟨[98, 121, 116, 101, 115]⟩⟩ = some (.type "bytes") := by rw [sw_bytes]; boot_by_name
theorem b_ord : bootBuiltins ⟨⟨[111, 114, 100]⟩⟩ = some (.builtin "ord") := by rw [sw_ord]; boot_by_name
theorem b_min : bootBuiltins ⟨⟨[109, 105, 110]⟩⟩ = some (.builtin "min") := by rw [sw_min]; boot_by_name
theorem fill9 (P : Params) : PySem.Challenge.rw_qd0103_01 = PySem.Challenge.rw_qd0103_01 ∧ KN P = KN P := by
  k_fill
  exact ⟨rfl, rfl⟩
noncomputable abbrev nPeek : Str := ⟨⟨[112, 101, 101, 107]⟩⟩
noncomputable abbrev nIsKind : Str := ⟨⟨[105, 115, 95, 107, 105, 110, 100]⟩⟩
noncomputable abbrev nIsSign : Str := ⟨⟨[105, 115, 95, 115, 105, 103, 110]⟩⟩
noncomputable abbrev nTake : Str := ⟨⟨[116, 97, 107, 101]⟩⟩
noncomputable abbrev nIsWord : Str := ⟨⟨[105, 115, 95, 119, 111, 114, 100]⟩⟩
noncomputable abbrev nSkip : Str := ⟨⟨[115, 107, 105, 112]⟩⟩
noncomputable abbrev nNeed : Str := ⟨⟨[110, 101, 101, 100]⟩⟩
noncomputable abbrev nIsName : Str := ⟨⟨[105, 115, 95, 110, 97, 109, 101]⟩⟩
noncomputable abbrev nName : Str := ⟨⟨[110, 97, 109, 101]⟩⟩
noncomputable abbrev nSkipSign : Str := ⟨⟨[115, 107, 105, 112, 95, 115, 105, 103, 110]⟩⟩
noncomputable abbrev nNeedSign : Str := ⟨⟨[110, 101, 101, 100, 95, 115, 105, 103, 110]⟩⟩
noncomputable abbrev nIsNumber : Str := ⟨⟨[105, 115, 95, 110, 117, 109, 98, 101, 114]⟩⟩
noncomputable abbrev nOneOf : Str := ⟨⟨[111, 110, 101, 95, 111, 102]⟩⟩
noncomputable abbrev nSigned : Str := ⟨⟨[115, 105, 103, 110, 101, 100]⟩⟩
noncomputable abbrev nOctets : Str := ⟨⟨[111, 99, 116, 101, 116, 115]⟩⟩
noncomputable abbrev aWorth : Str := ⟨⟨[119, 111, 114, 116, 104]⟩⟩
noncomputable abbrev aKind : Str := ⟨⟨[107, 105, 110, 100]⟩⟩
noncomputable abbrev aAt : Str := ⟨⟨[97, 116]⟩⟩
noncomputable abbrev aTokens : Str := ⟨⟨[116, 111, 107, 101, 110, 115]⟩⟩
theorem m_peek (P : Params) : MethOf P 446 nPeek 300 := ⟨by k_is, by k_is, by k_is, by k_is⟩
theorem m_is_kind (P : Params) : MethOf P 446 nIsKind 329 := ⟨by k_is, by k_is, by k_is, by k_is⟩
theorem m_is_sign (P : Params) : MethOf P 446 nIsSign 394 := ⟨by k_is, by k_is, by k_is, by k_is⟩
theorem m_take (P : Params) : MethOf P 446 nTake 321 := ⟨by k_is, by k_is, by k_is, by k_is⟩
theorem m_is_word (P : Params) : MethOf P 446 nIsWord 336 := ⟨by k_is, by k_is, by k_is, by k_is⟩
theorem m_skip (P : Params) : MethOf P 446 nSkip 343 := ⟨by k_is, by k_is, by k_is, by k_is⟩
theorem m_need (P : Params) : MethOf P 446 nNeed 350 := ⟨by k_is, by k_is, by k_is, by k_is⟩
theorem m_is_name (P : Params) : MethOf P 446 nIsName 372 := ⟨by k_is, by k_is, by k_is, by k_is⟩
theorem m_name (P : Params) : MethOf P 446 nName 379 := ⟨by k_is, by k_is, by k_is, by k_is⟩
theorem m_skip_sign (P : Params) : MethOf P 446 nSkipSign 401 := ⟨by k_is, by k_is, by k_is, by k_is⟩
theorem m_need_sign (P : Params) : MethOf P 446 nNeedSign 408 := ⟨by k_is, by k_is, by k_is, by k_is⟩
theorem m_is_number (P : Params) : MethOf P 446 nIsNumber 415 := ⟨by k_is, by k_is, by k_is, by k_is⟩
theorem m_one_of (P : Params) : MethOf P 446 nOneOf 357 := ⟨by k_is, by k_is, by k_is, by k_is⟩
theorem m_signed (P : Params) : MethOf P 446 nSigned 422 := ⟨by k_is, by k_is, by k_is, by k_is⟩
theorem m_octets (P : Params) : MethOf P 446 nOctets 443 := ⟨by k_is, by k_is, by k_is, by k_is⟩
theorem a_worth (P : Params) : AttrOf P 476 aWorth := ⟨by k_is, by k_is, ⟨_, by k_is, by k_is⟩⟩
theorem a_kind (P : Params) : AttrOf P 476 aKind := ⟨by k_is, by k_is, ⟨_, by k_is, by k_is⟩⟩
theorem a_at (P : Params) : AttrOf P 446 aAt := ⟨by k_is, by k_is, ⟨_, by k_is, by k_is⟩⟩
theorem a_tokens (P : Params) : AttrOf P 446 aTokens := ⟨by k_is, by k_is, ⟨_, by k_is, by k_is⟩⟩
theorem e_kind {h1 h2 h3 h4 : Int} {k1 k2 k3 k4 : Tok} {v1 v2 v3 v4 : Value} : getL aKind [⟨h1, .str (Str.ofString "kind") k1, v1⟩, ⟨h2, .str (Str.ofString "worth") k2, v2⟩, ⟨h3, .str (Str.ofString "at") k3, v3⟩, ⟨h4, .str (Str.ofString "is_in_a") k4, v4⟩] = some (some v1) := by
  rw [show Str.ofString "kind" = aKind by kernel_rfl!]; exact getL_yes
theorem e_worth {h1 h2 h3 h4 : Int} {k1 k2 k3 k4 : Tok} {v1 v2 v3 v4 : Value} : getL aWorth [⟨h1, .str (Str.ofString "kind") k1, v1⟩, ⟨h2, .str (Str.ofString "worth") k2, v2⟩, ⟨h3, .str (Str.ofString "at") k3, v3⟩, ⟨h4, .str (Str.ofString "is_in_a") k4, v4⟩] = some (some v2) := by
  rw [getL_no (by kernel_rfl!), show Str.ofString "worth" = aWorth by kernel_rfl!]; exact getL_yes
theorem e_tokens {h1 h2 h3 h4 : Int} {k1 k2 k3 k4 : Tok} {v1 v2 v3 v4 : Value} : getL aTokens [⟨h1, .str (Str.ofString "tokens") k1, v1⟩, ⟨h2, .str (Str.ofString "at") k2, v2⟩, ⟨h3, .str (Str.ofString "named") k3, v3⟩, ⟨h4, .str (Str.ofString "shared") k4, v4⟩] = some (some v1) := by
  rw [show Str.ofString "tokens" = aTokens by kernel_rfl!]; exact getL_yes
theorem e_at {h1 h2 h3 h4 : Int} {k1 k2 k3 k4 : Tok} {v1 v2 v3 v4 : Value} : getL aAt [⟨h1, .str (Str.ofString "tokens") k1, v1⟩, ⟨h2, .str (Str.ofString "at") k2, v2⟩, ⟨h3, .str (Str.ofString "named") k3, v3⟩, ⟨h4, .str (Str.ofString "shared") k4, v4⟩] = some (some v2) := by
  rw [getL_no (by kernel_rfl!), show Str.ofString "at" = aAt by kernel_rfl!]; exact getL_yes
theorem p_at {q : RP} {p j : Int} {pt u t : Tok} {g : Int} : (putL aAt g (.str aAt t) (.int j u) [⟨q.h1, .str (Str.ofString "tokens") q.k1, .ref q.tl⟩, ⟨q.h2, .str (Str.ofString "at") q.k2, .int p pt⟩, ⟨q.h3, .str (Str.ofString "named") q.k3, .ref q.nm⟩, ⟨q.h4, .str (Str.ofString "shared") q.k4, .ref q.sh⟩], putN aAt [⟨q.h1, .str (Str.ofString "tokens") q.k1, .ref q.tl⟩, ⟨q.h2, .str (Str.ofString "at") q.k2, .int p pt⟩, ⟨q.h3, .str (Str.ofString "named") q.k3, .ref q.nm⟩, ⟨q.h4, .str (Str.ofString "shared") q.k4, .ref q.sh⟩] 4) = ([⟨q.h1, .str (Str.ofString "tokens") q.k1, .ref q.tl⟩, ⟨q.h2, .str (Str.ofString "at") q.k2, .int j u⟩, ⟨q.h3, .str (Str.ofString "named") q.k3, .ref q.nm⟩, ⟨q.h4, .str (Str.ofString "shared") q.k4, .ref q.sh⟩], 4) := by
  have e1 : (Str.ofString "tokens" == aAt) = false := by kernel_rfl!
  have e2 : (Str.ofString "at" == aAt) = true := by kernel_rfl!
  unfold putN
  simp only [putL, Value.isStr, e1, e2, List.any_cons, Bool.false_or, Bool.true_or, if_true, Bool.false_eq_true, if_false]
noncomputable abbrev figT : List (Str × KTD.Dat) := [(⟨⟨[90, 69, 82, 79]⟩⟩, .flat (.str ⟨⟨[90, 69, 82, 79]⟩⟩)), (⟨⟨[90, 69, 82, 79, 83]⟩⟩, .flat (.str ⟨⟨[90, 69, 82, 79]⟩⟩)), (⟨⟨[90, 69, 82, 79, 69, 83]⟩⟩, .flat (.str ⟨⟨[90, 69, 82, 79]⟩⟩)), (⟨⟨[83, 80, 65, 67, 69]⟩⟩, .flat (.str ⟨⟨[83, 80, 65, 67, 69]⟩⟩)), (⟨⟨[83, 80, 65, 67, 69, 83]⟩⟩, .flat (.str ⟨⟨[83, 80, 65, 67, 69]⟩⟩)), (⟨⟨[72, 73, 71, 72, 45, 86, 65, 76, 85, 69]⟩⟩, .flat (.str ⟨⟨[72, 73, 71, 72]⟩⟩)), (⟨⟨[72, 73, 71, 72, 45, 86, 65, 76, 85, 69, 83]⟩⟩, .flat (.str ⟨⟨[72, 73, 71, 72]⟩⟩)), (⟨⟨[76, 79, 87, 45, 86, 65, 76, 85, 69]⟩⟩, .flat (.str ⟨⟨[76, 79, 87]⟩⟩)), (⟨⟨[76, 79, 87, 45, 86, 65, 76, 85, 69, 83]⟩⟩, .flat (.str ⟨⟨[76, 79, 87]⟩⟩)), (⟨⟨[81, 85, 79, 84, 69]⟩⟩, .flat (.str ⟨⟨[81, 85, 79, 84, 69]⟩⟩)), (⟨⟨[81, 85, 79, 84, 69, 83]⟩⟩, .flat (.str ⟨⟨[81, 85, 79, 84, 69]⟩⟩))]
theorem fig_tab (P : Params) : KTD.tabLook (KTD.datLooks fun b => (KN P).lookup b) (fun b => (KN P).lookup b) 132 figT = true := by kernel_rfl!
section
variable {G : Gl} {sc : Sc} {X : Xx G sc} {K : List Kf} {ml : Ml} {ns : News'} {tk : Nat} {r : Addr} {q : RP} {ts : Toks} {p : Nat} {pt : Tok}
theorem ob_rd {f : Addr} {name : Str} {pos : Pos} {args : List PySem.Expr} (R : RS ns r q ts p pt) (M : MethOf G.w.params 446 name f) (hl : rdNo name = true) (hs : noStars args = true)
    (h : go X 300 (.args pos args) (.callK (.ref f) [.ref r] :: K) ml ns tk) : Ob X (.meth (.ref r) name args pos) K ml ns tk :=
  ob_meth M R.inst R.dict (rd_none hl) hs h
theorem ob_kind {t : Addr} {tp : TP} {kd wo : Str} (z : TokAt ns t tp kd wo) (h : go X 300 (.ret (.v (.str kd tp.kt))) K ml ns tk.succ) : Ob X (.attr (.ref t) aKind) K ml ns tk :=
  ob_attr (a_kind _) z.inst z.dict e_kind rfl h
theorem ob_worth {t : Addr} {tp : TP} {kd wo : Str} (z : TokAt ns t tp kd wo) (h : go X 300 (.ret (.v (.str wo tp.wt))) K ml ns tk.succ) : Ob X (.attr (.ref t) aWorth) K ml ns tk :=
  ob_attr (a_worth _) z.inst z.dict e_worth rfl h
theorem ob_at (R : RS ns r q ts p pt) (h : go X 300 (.ret (.v (.int p pt))) K ml ns tk.succ) : Ob X (.attr (.ref r) aAt) K ml ns tk :=
  ob_attr (a_at _) R.inst R.dict e_at rfl h
theorem ob_tokens (R : RS ns r q ts p pt) (h : go X 300 (.ret (.v (.ref q.tl))) K ml ns tk.succ) : Ob X (.attr (.ref r) aTokens) K ml ns tk :=
  ob_attr (a_tokens _) R.inst R.dict e_tokens rfl h
theorem j_1 (p : Nat) : (p : Int) + 1 = ((p + 1 : Nat) : Int) := rfl
theorem ob_setAt {j : Int} {u : Tok} {p' : Nat} (R : RS ns r q ts p pt) (ej : j = p') (hp : p' ≤ ts.length) (h : ∀ n', RS n' r q ts p' u → Keeps ns n' q.dr → go X 300 (.ret (.f .next)) K ml n' tk.succ.succ) : Ob X (.set (.ref r) aAt (.int j u)) K ml ns tk :=
  ⟨fun s hR => by
    obtain ⟨h₁, rfl, F, N⟩ := hR
    subst ej
    have f1 : findIn (KN G.w.params) (.ref 446) "__setattr__" = some (some (.builtin "object.__setattr__")) := by k_is
    have f2 : plainOver (KN G.w.params) 446 = true := by k_is
    have f3 : takerIn (KN G.w.params) 446 aAt = some none := by k_is
    have f4 : hasDictIn (KN G.w.params) 446 = true := by k_is
    refine set_dict F X.X N (InstAt.of_news N R.inst R.dict) rfl f1 f2 f3 f4 (by rw [e_at]; rfl) p_at (upd_at R.nodup R.dict) (by simp) fun h' F' N' => ?_
    exact go_ok _ _ _ _ _ _ (h _ (R.kept (keeps_setAt _ _) (mem_setAt_self R.dict) (by rw [setAt_keys]; exact R.nodup) hp (tab_setAt R _)) (keeps_setAt _ _)) _ ⟨h', rfl, F', N'⟩⟩
theorem ob_notInFig {x : Str} {u : Tok} (h : go X 300 (.ret (.v (.bool (!KTD.inKeys x figT)))) K ml ns tk.succ) : Ob X (.cmp .NotIn (.str x u) (.ref 132)) K ml ns tk :=
  ⟨fun s hR => by
    obtain ⟨h₁, rfl, F, N⟩ := hR
    exact KTD.notin_text ⟨kt_text_in X.X (fig_tab _), F.keep⟩ (go_ok _ _ _ _ _ _ h _ ⟨h₁, rfl, F, N⟩)⟩
theorem ob_topItem {a : Addr} {es : Array DictEntry} {n : Nat} {x : Str} {u : Tok} {v : Value} {value slice : PySem.Expr} (hl : (KN G.w.params).lookup a = some ⟨.type "dict", none, .dict es n, #[]⟩) (hk : KeysLit G.w.params es.toList) (e : nsIn (KN G.w.params) a x = some (some v))
    (hs : subscripted slice false (.ref a) (.str x u) = operate [.ref a, .str x u] (getItem (.ref a) (.str x u))) (h : go X 300 (.ret (.v v)) K ml ns tk.succ) : Ob X (.sub value slice (.ref a) (.str x u)) K ml ns tk :=
  ⟨fun s hR => by
    obtain ⟨h₁, rfl, F, N⟩ := hR
    exact topItem_K F X.X hl hk e (go_ok _ _ _ _ _ _ h _ ⟨h₁, rfl, F, N⟩) hs⟩
end
end Mine
end
noncomputable section
open PySem PySem.W PyProof.Rows PySem.Calls
set_option Elab.async false
set_option maxRecDepth 100000
set_option maxHeartbeats 4000000
theorem Mine.kw_base : True := by
  (k_with "MINE enter" => ((
  intro dp un gd cn cs a ccd cl outer A₀ base h₀ L m s Q E B F
  k_fill
  intro X N T hk hd hu hret
  refine wpAny_call ?_
  k_dflt (refine' code_def ?k1 ?k2 ?k3 ?k4 ?k5 ?kA ?kF ?kK ?k6 ?k7 ?k8 ?k9 ?kB ?_ ?c2 ?c3 ?c4 ?c5; (case kA => exact rfl); (case kF => exact rfl); (case kK => assumption); (case k1 => k_asm); (case k2 => k_asm); (case k3 => k_asm); (case k4 => k_asm); (case k5 => k_asm); (case k6 => k_is); (case k7 => k_is); (case k8 => ktr_room); (case k9 => first | exact BindsTo.of_eq rfl | exact binds_K (by k_in) rfl (by k_is) rfl rfl rfl); (case c5 => decide); (case kB => exact locs rfl); (case c2 => exact rfl); (case c3 => exact rfl); (case c4 => exact rfl); k_whole; intro g' L' h' FG' F' N' B' X' T'; (try w_binds F'); (try dsimp only); (try k_fold); refine gen_toks ?_; intro k0; refine letA ?_; intro A9; have St9 := site_gen (A := A9) (L := L') rfl B' rfl hd hu))))
  (k_with "MINE end" => (refine hret _ _ _ _ (by k_asm) (by k_asm) ?_))
  (k_with "MINE use" => ((
  (case N9 => k_asm); (try (case R9 => walk_at "MINE rs")); (try (case a9 => first | omega | decide)); (try (case b9 => first | omega | decide)); (try (case i9 => first | exact Nat.add_zero _ | exact (show _ + 4 = _ from rfl) | exact (show _ + 3 = _ from rfl) | exact (show _ + 2 = _ from rfl) | exact (show _ + 1 = _ from rfl) | exact rfl)); (try (case c9 => walk_at "MINE side")); (try (case e9 => walk_at "MINE known")); (try (case m9 => k_mem)); (try (case s9 => kde_strs)); (try (case f9 => walk_at "MINE known")); (try (case h9 => walk_at "MINE known")); (try (case g9 => assumption)); (try (case j9 => walk_at "MINE known")); (try (case k9 => walk_at "MINE known")); (try (case l9 => walk_at "MINE known")); (case B9 => k_asm); (case F9 => k_asm); (case X9 => k_asm); (case T9 => k_asm); (case K9 => first | exact rfl | assumption); (case D9 => ktr_room); (case U9 => ktr_units))))
  (k_with "MINE useS" => ((
  (case N9 => k_asm); (try (case R9 => walk_at "MINE rs")); (try (case a9 => first | omega | decide)); (try (case b9 => first | omega | decide)); (try (case i9 => first | exact Nat.add_zero _ | exact (show _ + 4 = _ from rfl) | exact (show _ + 3 = _ from rfl) | exact (show _ + 2 = _ from rfl) | exact (show _ + 1 = _ from rfl) | exact rfl)); (try (case c9 => walk_at "MINE side")); (try (case e9 => walk_at "MINE known")); (try (case m9 => k_mem)); (try (case s9 => kde_strs)); (try (case f9 => walk_at "MINE known")); (try (case h9 => walk_at "MINE known")); (try (case g9 => assumption)); (try (case j9 => walk_at "MINE known")); (try (case k9 => walk_at "MINE known")); (try (case l9 => walk_at "MINE known")); (case B9 => k_asm); (case F9 => k_asm); (case X9 => k_asm); (case T9 => k_asm); (case D9 => exact rfl); (case U9 => exact rfl))))
  (k_with "MINE side" => (first | assumption | decide +kernel))
  (k_with "MINE known" => (first | with_reducible assumption | assumption))
  (k_with "MINE tok" => ((intro t9 tp9 h9 tk9 F9 N9 z9; have hti9 := z9.inst; have htd9 := z9.dict; (try k_sweep); (try dsimp only); (try k_fold))))
  (k_with "MINE val" => ((intro h9 tk9 F9 N9; (try k_sweep); (try dsimp only); (try k_fold))))
  (k_with "MINE mv" => ((intro pt9 news9 h9 tk9 F9 N9 Rn9 Kn9; have hri9 := Rn9.inst; have hrd9 := Rn9.dict; (try have hm9 := keepL (by walk_at "MINE rs") Kn9 (by k_mem)); (try k_sweep); (try dsimp only); (try k_fold))))
  (k_with "MINE mvv" => ((intro pt9 t9 news9 h9 tk9 F9 N9 Rn9 Kn9; have hri9 := Rn9.inst; have hrd9 := Rn9.dict; (try have hm9 := keepL (by walk_at "MINE rs") Kn9 (by k_mem)); (try k_sweep); (try dsimp only); (try k_fold))))
  (k_with "MINE mvtok" => ((intro pt9 t9 tp9 news9 h9 tk9 F9 N9 Rn9 Kn9 z9; have hti9 := z9.inst; have htd9 := z9.dict; have hri9 := Rn9.inst; have hrd9 := Rn9.dict; (try have hm9 := keepL (by walk_at "MINE rs") Kn9 (by k_mem)); (try k_sweep); (try dsimp only); (try k_fold))))
  (k_with "k_upd" => (first | exact upd_at (RS.nodup (by assumption)) (RS.dict (by assumption)) | (refine' Upd.tail ?n9 ?u9; (case u9 => k_upd); (case n9 => exact Nat.ne_of_gt (AllLt.some (by walk_at "MINE lt") (RS.dict (by assumption)))))))
  (k_with "MINE lt" => (first | assumption | exact AllLt.all (by assumption)))
  (k_with "MINE rs" => (first | assumption | (refine' RS.cons ?lt9 ?rs9; (case lt9 => walk_at "MINE lt"); (case rs9 => walk_at "MINE rs"))))
  (k_with "pyIter ref" => (((with_reducible show wpAny _ _ (pyIter (Value.ref _)) (fun it s₂ => LoopAtV _ _ _ _ _ _ _ _ _ it s₂) _ _); (rename Fr _ _ _ _ => lF9); (with_unfolding_all refine' iter_listUnr ?a1 lF9 ?a2 ?a3 ?a4 ?a5 ?_); (case a1 => exact rfl); (case a2 => k_asm); (case a3 => k_mem); (case a4 => exact rfl); (case a5 => with_unfolding_all rfl); intro i9 l9)))
  (k_with "UnrEnd" => ((refine' UnrEnd.all ?a1 ?a2 ?a4 ⟨?a5, ?_⟩; (case a1 => k_asm); (case a2 => k_asm); (case a4 => walk_at "MINE lt"); (case a5 => k_mem))))
  (k_with "k_mem" => (first | with_reducible assumption | (refine List.mem_cons_of_mem _ ?_; k_mem)))
  (k_with "MINE endsame" => (refine hret _ _ _ _ (by k_asm) (News.less (by k_asm) (by intro _ h9; first | exact h9 | exact List.mem_cons_of_mem _ h9 | exact List.mem_cons_of_mem _ (List.mem_cons_of_mem _ h9) | exact List.mem_cons_of_mem _ (List.mem_cons_of_mem _ (List.mem_cons_of_mem _ h9)))) ⟨rfl, ?_⟩))
  (k_with "exec While" => ((k_here; k_dflt (refine whl_start 100 ?_))))
  (k_with "exec While Compare" => ((k_here; k_dflt (refine whl_start 100 ?_))))
  (k_with "exec While BoolOp" => ((k_here; k_dflt (refine whl_start 100 ?_))))
  (k_with "WhlIf" => (first | (refine WhlIf.yes (by assumption) ?_) | (refine WhlIf.no (by assumption) ?_) | (refine WhlIf.yes (by simp only [*, Bool.not_true, Bool.not_false]) ?_) | (refine WhlIf.no (by simp only [*, Bool.not_true, Bool.not_false]) ?_)))
  (k_with "MINE valt" => ((intro t9 h9 tk9 F9 N9; (try k_sweep); (try dsimp only); (try k_fold))))
  (k_with "compareOp In str str" => ((k_here; first | (refine in_str_is true (by decide +kernel) ?_) | (refine in_str_is false (by decide +kernel) ?_))))
  (k_with "compareOp NotIn str str" => ((k_here; first | (refine notIn_str_is true (by decide +kernel) ?_) | (refine notIn_str_is false (by decide +kernel) ?_))))
  (k_with "call builtin:len" => ((k_here; (with_reducible show wpAny _ _ (call (Value.builtin "len") [Value.str _ _]) _ _ _); first | (refine len_str_is 1 (by decide +kernel) (by decide) ?_) | (refine len_str_is 2 (by decide +kernel) (by decide) ?_) | (refine len_str_is 3 (by decide +kernel) (by decide) ?_) | (refine len_str_is 0 (by decide +kernel) (by decide) ?_))))
  (k_with "MINE newp" => ((intro D9 a9 b9 h9 tk9 F9 N9 l9; (try k_sweep); (try dsimp only); (try k_fold))))
  (k_with "MINE mvp" => ((intro r9 news9 h9 tk9 F9 N9 p9; obtain ⟨⟨pt9, Rn9, Kn9⟩, D9, a9, b9, y9, z9⟩ := p9; subst y9; have hri9 := Rn9.inst; have hrd9 := Rn9.dict; (try have hm9 := keepL (by walk_at "MINE rs") Kn9 (by k_mem)); (try k_sweep); (try dsimp only); (try k_fold))))
  (k_with "MINE ret" => ((intro pt9 D9 news9 h9 tk9 F9 N9 Rn9 Kn9 z9; have hri9 := Rn9.inst; have hrd9 := Rn9.dict; (try have hm9 := keepL (by walk_at "MINE rs") Kn9 (by k_mem)); (try k_sweep); (try dsimp only); (try k_fold))))
  (k_with "MINE newtok" => ((intro r9 news9 h9 tk9 F9 N9 p9; obtain ⟨t9, tp9, x9, y9, z9, l9, n9⟩ := p9; subst x9; subst y9; (try k_sweep); (try dsimp only); (try k_fold))))
  (k_with "MINE newrdr" => ((intro r9 news9 h9 tk9 F9 N9 p9; obtain ⟨ra9, q9, pt9, x9, ri9, rd9, rl9, rs9, l9, nd9⟩ := p9; subst x9; (try k_sweep); (try dsimp only); (try k_fold))))
  (k_with "MINE newtl" => ((intro r9 news9 h9 tk9 F9 N9 p9; obtain ⟨l9, x9, T9, s9, o9, nd9⟩ := p9; subst x9; (try k_sweep); (try dsimp only); (try k_fold))))
  (k_with "storeName" => ((k_here; (try refine gen_storeI ?_; intro u0); (try refine gen_storeS ?_; intro u0); k_dflt (refine' storeX_L ?F ?N ?_ ?a ?b; (case F => k_asm); (case N => k_asm); (case a => rfl); (case b => rfl); k_whole; intro h' F' N'); (try k_sweep); (try dsimp only))))
  (k_with "MINE call" => (first
  | ((with_reducible show wpAny _ _ (call (Value.ref 300) _ _) _ _ _); first | (refine' con_tok (peek_some ?R9 _ _ ?a9 ?b9 ?i9 ?e9) ?B9 ?F9 ?X9 ?N9 ?T9 ?D9 ?U9 ?_; walk_at "MINE useS"; walk_at "MINE tok") | (refine' con_val (peek_none ?R9 _ _ ?a9 ?b9 ?i9 ?e9) ?B9 ?F9 ?X9 ?N9 ?T9 ?D9 ?U9 ?_; walk_at "MINE useS"; walk_at "MINE val") | (refine' con_tok (peek0_some ?R9 ?e9) ?B9 ?F9 ?X9 ?N9 ?T9 ?D9 ?U9 ?_; walk_at "MINE useS"; walk_at "MINE tok") | (refine' con_val (peek0_none ?R9 ?e9) ?B9 ?F9 ?X9 ?N9 ?T9 ?D9 ?U9 ?_; walk_at "MINE useS"; walk_at "MINE val"))
  | ((with_reducible show wpAny _ _ (call (Value.ref 329) _ _) _ _ _); first | (refine' con_val (is_kind_c ?R9 _ _ _ _ ?a9 ?b9 ?i9) ?B9 ?F9 ?X9 ?N9 ?T9 ?D9 ?U9 ?_; walk_at "MINE useS"; walk_at "MINE val") | (refine' con_val (is_kind0_c ?R9 _ _) ?B9 ?F9 ?X9 ?N9 ?T9 ?D9 ?U9 ?_; walk_at "MINE useS"; walk_at "MINE val"))
  | ((with_reducible show wpAny _ _ (call (Value.ref 394) _ _) _ _ _); first | (refine' con_val (is_sign_c ?R9 _ _ _ _ ?a9 ?b9 ?i9) ?B9 ?F9 ?X9 ?N9 ?T9 ?D9 ?U9 ?_; walk_at "MINE useS"; walk_at "MINE val") | (refine' con_val (is_sign0_c ?R9 _ _) ?B9 ?F9 ?X9 ?N9 ?T9 ?D9 ?U9 ?_; walk_at "MINE useS"; walk_at "MINE val"))
  | ((with_reducible show wpAny _ _ (call (Value.ref 321) _ _) _ _ _); first | (refine' con_mvtok (take_c ?R9 ?e9) ?B9 ?F9 ?X9 ?N9 ?T9 ?D9 ?U9 ?_; walk_at "MINE useS"; walk_at "MINE mvtok"))
  | ((with_reducible show wpAny _ _ (call (Value.ref 336) _ _) _ _ _); first | (refine' con_val (is_word_c ?R9 _ _ ?c9) ?B9 ?F9 ?X9 ?N9 ?T9 ?D9 ?U9 ?_; walk_at "MINE useS"; walk_at "MINE val"))
  | ((with_reducible show wpAny _ _ (call (Value.ref 343) _ _) _ _ _); first | (refine' con_mv (skip_yes ?R9 _ _ ?c9 ?e9) ?B9 ?F9 ?X9 ?N9 ?T9 ?D9 ?U9 ?_; walk_at "MINE useS"; walk_at "MINE mv") | (refine' con_val (skip_no ?R9 _ _ ?c9 ?e9) ?B9 ?F9 ?X9 ?N9 ?T9 ?D9 ?U9 ?_; walk_at "MINE useS"; walk_at "MINE val"))
  | ((with_reducible show wpAny _ _ (call (Value.ref 350) _ _) _ _ _); first | (refine' con_mv (need_yes ?R9 _ _ ?c9 ?e9) ?B9 ?F9 ?X9 ?N9 ?T9 ?D9 ?U9 ?_; walk_at "MINE useS"; walk_at "MINE mv"))
  | ((with_reducible show wpAny _ _ (call (Value.ref 272) _ _) _ _ _); first | (refine' con_val (is_reserved_c _ _ ?c9) ?B9 ?F9 ?X9 ?N9 ?T9 ?D9 ?U9 ?_; walk_at "MINE useS"; walk_at "MINE val"))
  | ((with_reducible show wpAny _ _ (call (Value.ref 372) _ _) _ _ _); first | (refine' con_val (is_name_c ?R9 ?g9) ?B9 ?F9 ?X9 ?N9 ?T9 ?D9 ?U9 ?_; walk_at "MINE useS"; walk_at "MINE val"))
  | ((with_reducible show wpAny _ _ (call (Value.ref 379) _ _) _ _ _); first | (refine' con_mvv (name_c ?R9 ?g9 ?e9 ?f9) ?B9 ?F9 ?X9 ?N9 ?T9 ?D9 ?U9 ?_; walk_at "MINE useS"; walk_at "MINE mvv"))
  | ((with_reducible show wpAny _ _ (call (Value.ref 401) _ _) _ _ _); first | (refine' con_mv (skip_sign_yes ?R9 _ _ ?e9) ?B9 ?F9 ?X9 ?N9 ?T9 ?D9 ?U9 ?_; walk_at "MINE useS"; walk_at "MINE mv") | (refine' con_val (skip_sign_no ?R9 _ _ ?e9) ?B9 ?F9 ?X9 ?N9 ?T9 ?D9 ?U9 ?_; walk_at "MINE useS"; walk_at "MINE val"))
  | ((with_reducible show wpAny _ _ (call (Value.ref 408) _ _) _ _ _); first | (refine' con_mv (need_sign_yes ?R9 _ _ ?e9) ?B9 ?F9 ?X9 ?N9 ?T9 ?D9 ?U9 ?_; walk_at "MINE useS"; walk_at "MINE mv"))
  | ((with_reducible show wpAny _ _ (call (Value.ref 415) _ _) _ _ _); first | (refine' con_val (is_number_c ?R9) ?B9 ?F9 ?X9 ?N9 ?T9 ?D9 ?U9 ?_; walk_at "MINE useS"; walk_at "MINE val"))
  | ((with_reducible show wpAny _ _ (call (Value.ref 244) _ _) _ _ _); first | (refine' con_val (word_ahead_c ?R9 _ _ _ _ ?a9 ?b9 ?i9) ?B9 ?F9 ?X9 ?N9 ?T9 ?D9 ?U9 ?_; walk_at "MINE useS"; walk_at "MINE val"))
  | ((with_reducible show wpAny _ _ (call (Value.ref 357) _ _) _ _ _); first | (refine' con_valt (one_of_no ?R9 _ ?e9 ?f9) ?B9 ?F9 ?X9 ?N9 ?T9 ?D9 ?U9 ?_; walk_at "MINE useS"; walk_at "MINE valt") | (refine' con_mvv (one_of_OF ?R9 _ ?e9) ?B9 ?F9 ?X9 ?N9 ?T9 ?D9 ?U9 ?_; walk_at "MINE useS"; walk_at "MINE mvv") | (refine' con_mvv (one_of_IN ?R9 _ ?e9 ?f9) ?B9 ?F9 ?X9 ?N9 ?T9 ?D9 ?U9 ?_; walk_at "MINE useS"; walk_at "MINE mvv"))
  | ((with_reducible show wpAny _ _ (call (Value.ref 139) _ _) _ _ _); first | (refine' con_val (ipn_no ?R9 ?e9) ?B9 ?F9 ?X9 ?N9 ?T9 ?D9 ?U9 ?_; walk_at "MINE useS"; walk_at "MINE val") | (refine' con_val (ipn_part ?R9 ?e9 ?f9 ?h9) ?B9 ?F9 ?X9 ?N9 ?T9 ?D9 ?U9 ?_; walk_at "MINE useS"; walk_at "MINE val") | (refine' con_val (ipn_sub ?R9 ?e9) ?B9 ?F9 ?X9 ?N9 ?T9 ?D9 ?U9 ?_; walk_at "MINE useS"; walk_at "MINE val"))
  | ((with_reducible show wpAny _ _ (call (Value.ref 195) _ _) _ _ _); first | (refine' con_valt (sa_c ?R9 ?m9 ?s9 ?e9) ?B9 ?F9 ?X9 ?N9 ?T9 ?D9 ?U9 ?_; walk_at "MINE useS"; walk_at "MINE valt"))
  | ((with_reducible show wpAny _ _ (call (Value.ref 124) _ _) _ _ _); first | (refine' con_valt (wo_5 _ _ ?c9) ?B9 ?F9 ?X9 ?N9 ?T9 ?D9 ?U9 ?_; walk_at "MINE useS"; walk_at "MINE valt") | (refine' con_valt (wo_50 _ _ ?c9) ?B9 ?F9 ?X9 ?N9 ?T9 ?D9 ?U9 ?_; walk_at "MINE useS"; walk_at "MINE valt"))
  | ((with_reducible show wpAny _ _ (call (Value.ref 89) _ _) _ _ _); first | (refine' con_newp (dec_50 _ _) ?B9 ?F9 ?X9 ?N9 ?T9 ?D9 ?U9 ?_; walk_at "MINE useS"; walk_at "MINE newp") | (refine' con_newp (dec_501 _ _) ?B9 ?F9 ?X9 ?N9 ?T9 ?D9 ?U9 ?_; walk_at "MINE useS"; walk_at "MINE newp") | (refine' con_newp (dec_m50 _ _) ?B9 ?F9 ?X9 ?N9 ?T9 ?D9 ?U9 ?_; walk_at "MINE useS"; walk_at "MINE newp"))
  | ((with_reducible show wpAny _ _ (call (Value.ref 131) _ _) _ _ _); first | (refine' con_newp (rd_5 _ _ ?c9) ?B9 ?F9 ?X9 ?N9 ?T9 ?D9 ?U9 ?_; walk_at "MINE useS"; walk_at "MINE newp") | (refine' con_newp (rd_50 _ _ ?c9) ?B9 ?F9 ?X9 ?N9 ?T9 ?D9 ?U9 ?_; walk_at "MINE useS"; walk_at "MINE newp"))
  | ((with_reducible show wpAny _ _ (call (Value.ref 96) _ _) _ _ _); first | (refine' con_newp (neg_c ?m9) ?B9 ?F9 ?X9 ?N9 ?T9 ?D9 ?U9 ?_; walk_at "MINE useS"; walk_at "MINE newp"))
  | ((with_reducible show wpAny _ _ (call (Value.ref 277) _ _) _ _ _); first | (refine' con_valt (oot_m _ _ ?c9) ?B9 ?F9 ?X9 ?N9 ?T9 ?D9 ?U9 ?_; walk_at "MINE useS"; walk_at "MINE valt") | (refine' con_valt (oot_ab _ _ ?c9) ?B9 ?F9 ?X9 ?N9 ?T9 ?D9 ?U9 ?_; walk_at "MINE useS"; walk_at "MINE valt"))
  | ((with_reducible show wpAny _ _ (call (Value.ref 443) _ _) _ _ _); first | (refine' con_mvv (octets_m ?R9 ?e9) ?B9 ?F9 ?X9 ?N9 ?T9 ?D9 ?U9 ?_; walk_at "MINE useS"; walk_at "MINE mvv") | (refine' con_mvv (octets_ab ?R9 ?e9) ?B9 ?F9 ?X9 ?N9 ?T9 ?D9 ?U9 ?_; walk_at "MINE useS"; walk_at "MINE mvv"))
  | ((with_reducible show wpAny _ _ (call (Value.ref 422) _ _) _ _ _); first | (refine' con_use (signed_m5 ?R9 ?e9 ?f9) ?B9 ?F9 ?X9 ?N9 ?T9 ?K9 ?D9 ?U9 ?_; walk_at "MINE use"; walk_at "MINE mvp") | (refine' con_use (signed_p50 ?R9 ?e9 ?f9) ?B9 ?F9 ?X9 ?N9 ?T9 ?K9 ?D9 ?U9 ?_; walk_at "MINE use"; walk_at "MINE mvp") | (refine' con_use (signed_5 ?R9 ?e9) ?B9 ?F9 ?X9 ?N9 ?T9 ?K9 ?D9 ?U9 ?_; walk_at "MINE use"; walk_at "MINE mvp"))
  | ((with_reducible show wpAny _ _ (call (Value.ref 174) _ _) _ _ _); first | (refine' con_val (fig_K ?R9 ?e9) ?B9 ?F9 ?X9 ?N9 ?T9 ?D9 ?U9 ?_; walk_at "MINE useS"; walk_at "MINE val") | (refine' con_ret (fig_ZEROS ?R9 ?e9) ?B9 ?F9 ?X9 ?N9 ?T9 ?D9 ?U9 ?_; walk_at "MINE useS"; walk_at "MINE ret") | (refine' con_ret (fig_QUOTES ?R9 ?e9) ?B9 ?F9 ?X9 ?N9 ?T9 ?D9 ?U9 ?_; walk_at "MINE useS"; walk_at "MINE ret") | (refine' con_ret (fig_SPACE ?R9 ?e9) ?B9 ?F9 ?X9 ?N9 ?T9 ?D9 ?U9 ?_; walk_at "MINE useS"; walk_at "MINE ret") | (refine' con_ret (fig_HIGHVALUE ?R9 ?e9) ?B9 ?F9 ?X9 ?N9 ?T9 ?D9 ?U9 ?_; walk_at "MINE useS"; walk_at "MINE ret") | (refine' con_ret (fig_LOWVALUES ?R9 ?e9) ?B9 ?F9 ?X9 ?N9 ?T9 ?D9 ?U9 ?_; walk_at "MINE useS"; walk_at "MINE ret") | (refine' con_ret (fig_ZERO ?R9 ?e9) ?B9 ?F9 ?X9 ?N9 ?T9 ?D9 ?U9 ?_; walk_at "MINE useS"; walk_at "MINE ret"))
  | ((with_reducible show wpAny _ _ (call (Value.ref 167) _ _) _ _ _); first | (refine' con_ret (all_ab ?R9 ?e9) ?B9 ?F9 ?X9 ?N9 ?T9 ?D9 ?U9 ?_; walk_at "MINE useS"; walk_at "MINE ret") | (refine' con_ret (all_ZEROS ?R9 ?e9) ?B9 ?F9 ?X9 ?N9 ?T9 ?D9 ?U9 ?_; walk_at "MINE useS"; walk_at "MINE ret"))
  | ((with_reducible show wpAny _ _ (call (Value.ref 181) _ _) _ _ _); first | (refine' con_ret (ro_5 ?R9 _ ?e9) ?B9 ?F9 ?X9 ?N9 ?T9 ?D9 ?U9 ?_; walk_at "MINE useS"; walk_at "MINE ret") | (refine' con_ret (ro_m5 ?R9 _ ?e9 ?f9) ?B9 ?F9 ?X9 ?N9 ?T9 ?D9 ?U9 ?_; walk_at "MINE useS"; walk_at "MINE ret") | (refine' con_ret (ro_p50 ?R9 _ ?e9 ?f9) ?B9 ?F9 ?X9 ?N9 ?T9 ?D9 ?U9 ?_; walk_at "MINE useS"; walk_at "MINE ret") | (refine' con_ret (ro_lit ?R9 _ ?e9) ?B9 ?F9 ?X9 ?N9 ?T9 ?D9 ?U9 ?_; walk_at "MINE useS"; walk_at "MINE ret") | (refine' con_ret (ro_allab ?R9 _ ?e9 ?f9) ?B9 ?F9 ?X9 ?N9 ?T9 ?D9 ?U9 ?_; walk_at "MINE useS"; walk_at "MINE ret") | (refine' con_ret (ro_allZEROS ?R9 _ ?e9 ?f9) ?B9 ?F9 ?X9 ?N9 ?T9 ?D9 ?U9 ?_; walk_at "MINE useS"; walk_at "MINE ret") | (refine' con_ret (ro_QUOTES ?R9 _ ?e9) ?B9 ?F9 ?X9 ?N9 ?T9 ?D9 ?U9 ?_; walk_at "MINE useS"; walk_at "MINE ret") | (refine' con_ret (ro_SPACE ?R9 _ ?e9) ?B9 ?F9 ?X9 ?N9 ?T9 ?D9 ?U9 ?_; walk_at "MINE useS"; walk_at "MINE ret") | (refine' con_ret (ro_HIGHVALUE ?R9 _ ?e9) ?B9 ?F9 ?X9 ?N9 ?T9 ?D9 ?U9 ?_; walk_at "MINE useS"; walk_at "MINE ret") | (refine' con_ret (ro_LOWVALUES ?R9 _ ?e9) ?B9 ?F9 ?X9 ?N9 ?T9 ?D9 ?U9 ?_; walk_at "MINE useS"; walk_at "MINE ret") | (refine' con_ret (ro_ZERO ?R9 _ ?e9) ?B9 ?F9 ?X9 ?N9 ?T9 ?D9 ?U9 ?_; walk_at "MINE useS"; walk_at "MINE ret"))
  | ((with_reducible show wpAny _ _ (call (Value.ref 237) _ _) _ _ _); first | (refine' con_ret (rp_5 ?R9 _ ?e9) ?B9 ?F9 ?X9 ?N9 ?T9 ?D9 ?U9 ?_; walk_at "MINE useS"; walk_at "MINE ret"))
  | ((with_reducible show wpAny _ _ (call (Value.ref 230) _ _) _ _ _); first | (refine' con_ret (rpow_5 ?R9 _ ?e9 ?f9) ?B9 ?F9 ?X9 ?N9 ?T9 ?D9 ?U9 ?_; walk_at "MINE useS"; walk_at "MINE ret"))
  | ((with_reducible show wpAny _ _ (call (Value.ref 216) _ _) _ _ _); first | (refine' con_ret (rfac_5 ?R9 _ ?e9 ?f9) ?B9 ?F9 ?X9 ?N9 ?T9 ?D9 ?U9 ?_; walk_at "MINE useS"; walk_at "MINE ret"))
  | ((with_reducible show wpAny _ _ (call (Value.ref 209) _ _) _ _ _); first | (refine' con_ret (rprod_5 ?R9 _ ?e9 ?f9 ?h9) ?B9 ?F9 ?X9 ?N9 ?T9 ?D9 ?U9 ?_; walk_at "MINE useS"; walk_at "MINE ret"))
  | ((with_reducible show wpAny _ _ (call (Value.ref 202) _ _) _ _ _); first | (refine' con_ret (rsum_5 ?R9 _ ?e9 ?f9 ?h9 ?j9) ?B9 ?F9 ?X9 ?N9 ?T9 ?D9 ?U9 ?_; walk_at "MINE useS"; walk_at "MINE ret") | (refine' con_ret (rsum_55 ?R9 _ ?e9 ?f9 ?h9 ?j9 ?k9 ?l9) ?B9 ?F9 ?X9 ?N9 ?T9 ?D9 ?U9 ?_; walk_at "MINE useS"; walk_at "MINE ret"))
  | ((with_reducible show wpAny _ _ (call (Value.ref 188) _ _) _ _ _); first | (refine' con_ret (rexp_5 ?R9 ?e9 ?f9 ?h9 ?j9) ?B9 ?F9 ?X9 ?N9 ?T9 ?D9 ?U9 ?_; walk_at "MINE useS"; walk_at "MINE ret") | (refine' con_ret (rexp_55 ?R9 ?e9 ?f9 ?h9 ?j9 ?k9 ?l9) ?B9 ?F9 ?X9 ?N9 ?T9 ?D9 ?U9 ?_; walk_at "MINE useS"; walk_at "MINE ret"))
  | ((with_reducible show wpAny _ _ (call (Value.ref 146) _ _) _ _ _); first | (refine' con_ret (rsubs ?R9 ?e9) ?B9 ?F9 ?X9 ?N9 ?T9 ?D9 ?U9 ?_; walk_at "MINE useS"; walk_at "MINE ret"))
  | ((with_reducible show wpAny _ _ (call (Value.ref 153) _ _) _ _ _); first | (refine' con_ret (rpart ?R9 ?e9) ?B9 ?F9 ?X9 ?N9 ?T9 ?D9 ?U9 ?_; walk_at "MINE useS"; walk_at "MINE ret"))
  | ((with_reducible show wpAny _ _ (call (Value.ref 160) _ _) _ _ _); first | (refine' con_ret (rref_K ?R9 ?g9 ?e9 ?f9) ?B9 ?F9 ?X9 ?N9 ?T9 ?D9 ?U9 ?_; walk_at "MINE useS"; walk_at "MINE ret") | (refine' con_ret (rref_KRF ?R9 ?g9 ?e9 ?f9 ?h9 ?j9 ?k9 ?l9) ?B9 ?F9 ?X9 ?N9 ?T9 ?D9 ?U9 ?_; walk_at "MINE useS"; walk_at "MINE ret") | (refine' con_ret (rref_sub ?R9 ?g9 ?e9 ?f9 ?h9) ?B9 ?F9 ?X9 ?N9 ?T9 ?D9 ?U9 ?_; walk_at "MINE useS"; walk_at "MINE ret") | (refine' con_ret (rref_part ?R9 ?g9 ?e9 ?f9) ?B9 ?F9 ?X9 ?N9 ?T9 ?D9 ?U9 ?_; walk_at "MINE useS"; walk_at "MINE ret"))
  | ((with_reducible show wpAny _ _ (call (Value.ref 251) _ _) _ _ _); first | (refine' con_val (begins_c ?R9 ?g9) ?B9 ?F9 ?X9 ?N9 ?T9 ?D9 ?U9 ?_; walk_at "MINE useS"; walk_at "MINE val"))
  | ((with_reducible show wpAny _ _ (call (Value.ref 476) _ _) _ _ _); first | (refine' con_use (tok_new _ _ _ _ _) ?B9 ?F9 ?X9 ?N9 ?T9 ?K9 ?D9 ?U9 ?_; walk_at "MINE use"; walk_at "MINE newtok"))
  | ((with_reducible show wpAny _ _ (call (Value.ref 446) _ _) _ _ _); first | (refine' con_use (rdr_new _) ?B9 ?F9 ?X9 ?N9 ?T9 ?K9 ?D9 ?U9 ?_; walk_at "MINE use"; walk_at "MINE newrdr"))
  | ((with_reducible show wpAny _ _ (call (Value.ref 504) _ _) _ _ _); first | (refine' con_use (lw_D _ _ ?c9) ?B9 ?F9 ?X9 ?N9 ?T9 ?K9 ?D9 ?U9 ?_; walk_at "MINE use"; walk_at "MINE newtl") | (refine' con_use (lw_NA _ _ ?c9) ?B9 ?F9 ?X9 ?N9 ?T9 ?K9 ?D9 ?U9 ?_; walk_at "MINE use"; walk_at "MINE newtl") | (refine' con_use (lw_WNA _ _ ?c9) ?B9 ?F9 ?X9 ?N9 ?T9 ?K9 ?D9 ?U9 ?_; walk_at "MINE use"; walk_at "MINE newtl") | (refine' con_use (lw_E _ _ ?c9) ?B9 ?F9 ?X9 ?N9 ?T9 ?K9 ?D9 ?U9 ?_; walk_at "MINE use"; walk_at "MINE newtl"))))
  (k_with "call ref" => ((k_here; k_dflt (walk_at "MINE call"))))
  (k_with "SrcS" => ((refine SrcS.of (by decide) (by rfl) (by k_asm) (by k_asm) (by decide) ?_; intro g'; lcg_lit)))
  (k_with "CompRest" => ((refine LCg.CompRest.succ ?_; intro v' I' oI' C' oC' D' m' h' tk' E' hv' hC' hx' F' N' off' ne'; (obtain ⟨c9', u9', e9', hv9'⟩ := hv'; cases e9'; subst hv9'); (try simp only [LCg.Off3, and_true] at off'))))
  (k_with "pyIter str" => (((with_reducible show wpAny _ _ (pyIter (Value.str _ _)) (fun it s₂ => LoopAtV _ _ _ _ _ _ _ _ _ it s₂) _ _); (rename Fr _ _ _ _ => lF9); (with_unfolding_all refine' iter_signs ?a1 ?a0 lF9 ?a2 ?_); (case a1 => exact rfl); (case a0 => decide); (case a2 => k_asm); intro i9 l9)))
  (k_with "SgnRest" => ((with_unfolding_all first | (refine SgnRest.succ (fun u' it' h' tk' F' N' => ?_)) | (refine SgnRest.zero (fun h' tk' F' N' => ?_)))))
  (k_with "CompEnd" => ((refine' CompEnd.all ?a1 ?a2 ?a3 ?a4 ?_; (case a1 => k_asm); (case a2 => k_asm); (case a3 => assumption); (case a4 => exact True.intro))))
  (k_with "exec For" => ((k_here; (rename Fr _ _ _ _ => lF'); (with_unfolding_all refine' For_invVF lF' ?k1 ?k2 ?_; (case k1 => exact rfl); (case k2 => exact rfl); k_whole))))
  (k_with "CompEnd" => ((refine' CompEnd.all ?a1 ?a2 ?a3 ?a4 ?_; (case a1 => k_asm); (case a2 => k_asm); (case a3 => assumption); (case a4 => first | exact True.intro | exact Or.inr ⟨_, by k_mem, rfl, _, rfl⟩))))
  (k_with "call builtin:str.index" => ((k_here; first | (refine index_is 5 5 rfl (by decide +kernel) ?_) | (refine index_is 0 0 rfl (by decide +kernel) ?_) | (refine index_is 1 1 rfl (by decide +kernel) ?_))))
  (k_with "call builtin:ord" => ((k_here; (refine P.ord_of_char ?_))))
  (k_with "call type:bytes" => ((k_here; (with_reducible show wpAny _ _ (call (Value.type _) [Value.ref _]) _ _ _); k_dflt (refine' bytes_K ?F ?N ?l ?i ?r ?z ?h ?_; (case F => k_asm); (case N => k_asm); (case l => exact News.isList (by k_asm) (by k_mem)); (case i => repeat constructor); (case r => decide); (case z => decide); (case h => with_unfolding_all rfl); k_whole); intro h' t' k' F' N' hB')))
  (k_with "UnrEnd" => (first | (refine' UnrEnd.all ?a1 ?a2 ?a4 ⟨?a5, ?_⟩; (case a1 => k_asm); (case a2 => k_asm); (case a4 => walk_at "MINE lt"); (case a5 => k_mem)) | (refine' UnrEnd.all ?a1 ?a2 ?a4 ?_; (case a1 => k_asm); (case a2 => k_asm); (case a4 => walk_at "MINE lt"))))
  (k_with "MINE memtail" => (first | exact h9 | (refine List.mem_cons_of_mem _ ?_; walk_at "MINE memtail")))
  (k_with "MINE sub" => ((intro x9 h9; first | walk_at "MINE memtail" | (rcases List.mem_cons.mp h9 with h9 | h9; (subst h9; k_mem); walk_at "MINE memtail"))))
  (k_with "MINE above" => (first | assumption | (intro x9 h9; exact (‹∀ p : Addr × Obj, p ∈ (_ : List (Addr × Obj)) → p.1 < _› x9 (by walk_at "MINE memtail"))) | (intro x9 h9; exact AllLt.all (by assumption) x9 h9)))
  (k_with "subscriptTail Name Name str int" => ((k_here; first | (refine sitem_at 53 (by decide +kernel) (by decide +kernel) ?_) | (refine sitem_at 46 (by decide +kernel) (by decide +kernel) ?_) | (refine sitem_at 48 (by decide +kernel) (by decide +kernel) ?_))))
  (k_with "MINE mvend" => (first | exact ⟨_, Rn9, Kn9⟩ | (refine MV.trans ?_ ⟨_, Rn9, Kn9⟩; assumption) | (refine MV.trans (Keeps.trans ?_ ?_) ⟨_, Rn9, Kn9⟩ <;> assumption) | (refine MV.trans (Keeps.trans ?_ (Keeps.trans ?_ ?_)) ⟨_, Rn9, Kn9⟩ <;> assumption) | (refine MV.cons (by walk_at "MINE above") ?_; walk_at "MINE mvend")))
  (k_with "MINE enterC" => ((
  intro dp un gd cn cs a ccd cl outer A₀ base h₀ L m s Q E B F
  k_fill
  intro X N T hk hd hu hret
  refine wpAny_call ?_
  k_dflt (refine' code_defC ?k1 ?k2 ?k3 ?k4 ?k5 ?kA ?kF ?kK ?k6 ?k7 ?k8 ?k9 ?kB ?kD ?_ ?c2 ?c3 ?c4; (case kA => exact rfl); (case kF => exact rfl); (case kK => assumption); (case k1 => k_asm); (case k2 => k_asm); (case k3 => k_asm); (case k4 => k_asm); (case k5 => k_asm); (case k6 => k_is); (case k7 => k_is); (case k8 => ktr_room); (case k9 => first | exact BindsTo.of_eq rfl | exact binds_K (by k_in) rfl (by k_is) rfl rfl rfl); (case kB => exact rfl); (case kD => decide +kernel); (case c2 => exact rfl); (case c3 => exact rfl); (case c4 => exact rfl); k_whole; intro g' L' h' tk' cells' FG' F' N' Y' B' X' T' l9; have m9 := fun x9 h9 => Nat.lt_succ_of_lt (l9 x9 h9); k_cells Y'; (try simp only [List.cons_append, List.nil_append] at N'); (try dsimp only); (try k_fold); refine letA ?_; intro A9; have St9 := site_gen (A := A9) (L := L') rfl B' rfl hd hu))))
  (k_with "eval Lambda" => ((k_here; k_dflt (refine' kla_eval ?d0 ?_; (case d0 => exact rfl)); k_dflt (refine' lam_step ?R9 ?F9 ?N9 ?T9 ?C9 ?cd9 ?cl9 ?_; (case N9 => k_asm); (case F9 => k_asm); (case T9 => k_asm); (case cd9 => exact rfl); (case cl9 => exact rfl); (case C9 => exact lam_code (by k_asm)); (case R9 => walk_at "MINE rs")); intro f9 led9 h9 tk9 F9 N9 p9; obtain ⟨pt9, Rn9, Kn9⟩ := p9; have hri9 := Rn9.inst; have hrd9 := Rn9.dict; (try dsimp only); (try k_fold))))
  (k_with "MINE dat" => (first
  | assumption
  | exact DatIn.tuple (by k_mem) DatAll.nil
  | (refine' dat_cons ?_; walk_at "MINE dat")
  | (refine' datKept ?K9 ?R9 ?z9 ?f9; (case K9 => assumption); (case R9 => walk_at "MINE rs"); (case f9 => first | assumption | rfl | decide); (case z9 => walk_at "MINE dat"))
  | (refine' datSet ?m9 ?R9 ?z9 ?f9; (case m9 => k_mem); (case R9 => walk_at "MINE rs"); (case f9 => first | assumption | rfl | decide); (case z9 => walk_at "MINE dat"))))
  (k_with "MINE keeps" => (first
  | exact Keeps.refl _ _
  | assumption
  | (refine' keeps_cons ?_; walk_at "MINE keeps")
  | (refine' keeps_setL ?k9 ?l9; (case l9 => (refine' ne_above ?_; walk_at "MINE above")); (case k9 => walk_at "MINE keeps"))
  | (refine' Keeps.trans ?k9 ?l9; (case l9 => assumption); (case k9 => walk_at "MINE keeps"))))
  (k_with "MINE mvend" => ((refine' ⟨_, ?R9, ?K9⟩; (case R9 => walk_at "MINE rs"); (case K9 => walk_at "MINE keeps"))))
  (k_with "MINE rs" => (first | assumption | (refine' RS.cons ?lt9 ?rs9; (case lt9 => walk_at "MINE lt"); (case rs9 => walk_at "MINE rs")) | (refine' RS.setL ?m9 ?ne9 ?rs9; (case m9 => k_mem); (case ne9 => first | assumption | exact RS.tlne R (by walk_at "MINE above")); (case rs9 => walk_at "MINE rs"))))
  (k_with "call builtin:list.append" => ((k_here; (with_reducible show wpAny _ _ (call (Value.builtin _) [Value.ref _, _]) _ _ _); k_dflt (refine' append_R ?k1 ?k2 ?k4 ?k5 ?k3 ?_ ?z; (case k1 => k_asm); (case k2 => k_asm); (case k4 => k_mem); (case k3 => walk_at "MINE rs"); (case k5 => walk_at "MINE tlne"); (case z => first | size_fits | exact Nat.le_trans (by omega : _ ≤ 64) (by decide))); intro h9 F9 N9 Rn9 hm9; have hri9 := Rn9.inst; have hrd9 := Rn9.dict; (try k_sweep))))
  (k_with "MINE tlne" => (first | assumption | (refine' RS.tlne ?R9 ?a9; (case a9 => first | assumption | exact AllLt.all (by assumption)); (case R9 => walk_at "MINE rs"))))
  (k_with "MINE above" => ((refine' above_kept ?l9 ?R9 ?K9; (case l9 => first | assumption | exact AllLt.all (by assumption)); (case R9 => walk_at "MINE rs"); (case K9 => walk_at "MINE keeps"))))
  (k_with "MINE dats" => (first
  | assumption
  | (refine' datAll_cons ?_; walk_at "MINE dats")
  | (refine' datAllKept ?K9 ?R9 ?z9 ?f9; (case K9 => assumption); (case R9 => walk_at "MINE rs"); (case f9 => first | assumption | rfl | decide); (case z9 => walk_at "MINE dats"))
  | (refine' datAllSet ?m9 ?R9 ?z9 ?f9; (case m9 => k_mem); (case R9 => walk_at "MINE rs"); (case f9 => first | assumption | rfl | decide); (case z9 => walk_at "MINE dats"))))
  (k_with "V by" => (((case ho => k_is); (case hcd => k_is); (case hb => (intro s hK9; first | exact BindsTo.of_eq rfl | exact binds_K hK9 rfl (by k_is) rfl rfl rfl)); (case hm => exact rfl); (case hl => exact locs rfl); (case g1 => exact rfl); (case g2 => exact rfl); (case g3 => exact rfl); (case hc => decide); (case hn => exact rfl))))
  (k_with "V enter" => ((refine' con_by ?ho ?hcd ?hb ?hm ?hl ?g1 ?g2 ?g3 ?hc ?hn ?_; walk_at "V by"; intro X tk hret)))
  (k_with "V rs" => (first | with_reducible assumption | (refine' RS.cons ?lt9 ?rs9; (case lt9 => assumption); (case rs9 => walk_at "V rs"))))
  (k_with "V sub" => ((intro _ h9; first | exact h9 | exact .tail _ h9 | exact .tail _ (.tail _ h9) | exact .tail _ (.tail _ (.tail _ h9)) | exact .tail _ (.tail _ (.tail _ (.tail _ h9))))))
  (k_with "V end" => (refine hret _ _ ?_))
  (k_with "V endsame" => (refine End.less (by walk_at "V sub") (hret _ _ ⟨rfl, ?_⟩)))
  (k_with "V if" => (first | (refine' IfB.yes ?c9 ?_; (case c9 => assumption)) | (refine' IfB.no ?c9 ?_; (case c9 => assumption)) | (refine IfB.yes rfl ?_) | (refine IfB.no rfl ?_) | (refine' IfB.yes (decide_eq_true ?c9) ?_; (case c9 => assumption)) | (refine' IfB.no (decide_eq_false ?c9) ?_; (case c9 => assumption)) | (refine' IfB.yes ?c9 ?_; (case c9 => (simp only [*]; done))) | (refine' IfB.no ?c9 ?_; (case c9 => (simp only [*]; done))) | (refine IfB.both ?_ ?_ <;> intro h9)))
  (k_with "V tup" => ((intro D9 l9)))
  (k_with "V ob" => (first
  | walk_at "V more"
  | ((with_reducible show Ob _ (Tk.meth (Value.ref _) _ _ _) _ _ _ _); first
    | (refine' ob_rd ?R9 (m_peek _) rfl rfl ?_; (case R9 => walk_at "V rs"))
    | (refine' ob_rd ?R9 (m_is_kind _) rfl rfl ?_; (case R9 => walk_at "V rs"))
    | (refine' ob_rd ?R9 (m_is_sign _) rfl rfl ?_; (case R9 => walk_at "V rs"))
    | (refine' ob_rd ?R9 (m_take _) rfl rfl ?_; (case R9 => walk_at "V rs"))
    | (refine' ob_rd ?R9 (m_is_word _) rfl rfl ?_; (case R9 => walk_at "V rs"))
    | (refine' ob_rd ?R9 (m_skip _) rfl rfl ?_; (case R9 => walk_at "V rs"))
    | (refine' ob_rd ?R9 (m_need _) rfl rfl ?_; (case R9 => walk_at "V rs"))
    | (refine' ob_rd ?R9 (m_is_name _) rfl rfl ?_; (case R9 => walk_at "V rs"))
    | (refine' ob_rd ?R9 (m_name _) rfl rfl ?_; (case R9 => walk_at "V rs"))
    | (refine' ob_rd ?R9 (m_skip_sign _) rfl rfl ?_; (case R9 => walk_at "V rs"))
    | (refine' ob_rd ?R9 (m_need_sign _) rfl rfl ?_; (case R9 => walk_at "V rs"))
    | (refine' ob_rd ?R9 (m_is_number _) rfl rfl ?_; (case R9 => walk_at "V rs"))
    | (refine' ob_rd ?R9 (m_one_of _) rfl rfl ?_; (case R9 => walk_at "V rs"))
    | (refine' ob_rd ?R9 (m_signed _) rfl rfl ?_; (case R9 => walk_at "V rs"))
    | (refine' ob_rd ?R9 (m_octets _) rfl rfl ?_; (case R9 => walk_at "V rs")))
  | ((with_reducible show Ob _ (Tk.attr (Value.ref _) _) _ _ _ _); first
    | (refine' ob_at ?R9 ?_; (case R9 => walk_at "V rs"))
    | (refine' ob_tokens ?R9 ?_; (case R9 => walk_at "V rs"))
    | (refine' ob_kind ?z9 ?_; (case z9 => with_reducible assumption))
    | (refine' ob_worth ?z9 ?_; (case z9 => with_reducible assumption)))
  | ((with_reducible show Ob _ (Tk.set (Value.ref _) _ _) _ _ _ _); (refine' ob_setAt ?R9 ?j9 ?p9 ?_; (case R9 => walk_at "V rs"); (case j9 => first | exact j_1 _ | assumption | exact rfl); (case p9 => omega); intro n9 Rn9 Kn9))
  | ((with_reducible show Ob _ (Tk.callF (Value.ref _) _ _ _) _ _ _ _); (refine' ob_fn ?k9 rfl ?_; (case k9 => k_is)))
  | ((with_reducible show Ob _ (Tk.callF (Value.builtin _) _ _ _) _ _ _ _); (refine ob_fnB rfl ?_))
  | ((with_reducible show Ob _ (Tk.callF (Value.type _) _ _ _) _ _ _ _); (refine ob_fnT rfl ?_))
  | ((with_reducible show Ob _ (Tk.unp _ _ _ (Value.ref _)) _ _ _ _); (refine' ob_unp ?m9 rfl rfl ?_; (case m9 => k_mem)))
  | ((with_reducible show Ob _ (Tk.exec (Stmt.Assign [PySem.Expr.Tuple _ _ _] (PySem.Expr.Tuple _ _ _) _)) _ _ _ _); refine ob_asgW rfl ?_)
  | ((with_reducible show Ob _ (Tk.unpW _ _ (Value.ref _)) _ _ _ _); (refine' ob_unpW ?m9 rfl rfl ?_; (case m9 => k_mem)))
  | ((with_reducible show Ob _ (Tk.tup _) _ _ _ _); (refine ob_tup rfl ?_; walk_at "V tup"))
  | ((with_reducible show Ob _ (Tk.lst _) _ _ _ _); (refine ob_lst rfl ?_; walk_at "V tup"))
  | ((with_reducible show Ob _ (Tk.ev (PySem.Expr.Name _ _)) _ _ _ _); first
    | (refine' ob_glob ?e9 rfl ?_; (case e9 => k_is))
    | (refine' ob_globB ?e9 ?f9 ?g9 rfl ?_; (case e9 => k_is); (case f9 => first | exact b_len | exact b_range | exact b_abs | exact b_int | exact b_sum | exact b_tuple | exact b_enumerate | exact b_bytes | exact b_ord | exact b_min); (case g9 => decide)))
  | ((with_reducible show Ob _ (Tk.call (Value.builtin _) [Value.ref _]) _ _ _ _); (refine' ob_len ?m9 ?z9 ?_; (case m9 => k_mem); (case z9 => first | (simp only [*]; omega) | exact (show (1 : Int) < 2 ^ 63 by decide) | exact (show (2 : Int) < 2 ^ 63 by decide))))
  | ((with_reducible show Ob _ (Tk.meth (Value.str _ _) _ _ _) _ _ _ _); refine ob_splitM rfl ?_)
  | ((with_reducible show Ob _ (Tk.call (Value.builtin "str.split") _) _ _ _ _); refine' ob_split1 ?e9 ?z9 ?_; (case e9 => exact And.left (by assumption : One _)); (case z9 => exact And.right (by assumption : One _)); intro D9 k9 tk l9)
  | ((with_reducible show Ob _ (Tk.cmp CmpOp.NotIn (Value.str _ _) (Value.ref 132)) _ _ _ _); refine ob_notInFig ?_)
  | ((with_reducible show Ob _ (Tk.sub _ _ (Value.ref 132) (Value.str _ _)) _ _ _ _); refine' ob_topItem ?l9 ?k9 ?e9 ?s9 ?_; (case l9 => k_is); (case k9 => k_keys); (case e9 => k_is); (case s9 => with_unfolding_all rfl))
  | ((with_reducible show Ob _ (Tk.exec (Stmt.While _ _ _ _)) _ _ _ _); refine ob_while ?_)
  | ((with_reducible show Ob _ (Tk.ret _) (Kf.whB _ _ :: _) _ _ _); refine ob_turn ?_)
  | ((with_reducible show Ob _ (Tk.forL (Value.ref _) _ _) _ _ _ _); refine' ob_forL ?m9 ?_; (case m9 => k_mem); intro I9 L9)
  | ((with_reducible show Ob _ (Tk.ret _) (Kf.forB _ _ _ _ _ _ :: _) _ _ _); refine' ob_forE (.head _) (fun _ h => .tail _ h) ?o9 ?m9 ?_; (case o9 => exact fun _ h => Nat.ne_of_lt (L9 _ h)); (case m9 => k_mem))
  | ((with_reducible show Ob _ (Tk.call (Value.ref 300) _) _ _ _ _); first | (refine' ob_tok (peek_some ?R9 _ _ ?a9 ?b9 ?i9 ?e9) rfl rfl ?_; (case R9 => walk_at "V rs"); (case a9 => first | omega | decide); (case b9 => first | omega | decide); (case i9 => first | assumption | exact Nat.add_zero _ | exact (show _ + 4 = _ from rfl) | exact (show _ + 3 = _ from rfl) | exact (show _ + 2 = _ from rfl) | exact (show _ + 1 = _ from rfl) | exact rfl); (case e9 => assumption); intro t9 tp9 tk z9) | (refine' ob_val (peek_none ?R9 _ _ ?a9 ?b9 ?i9 ?e9) rfl rfl ?_; (case R9 => walk_at "V rs"); (case a9 => first | omega | decide); (case b9 => first | omega | decide); (case i9 => first | assumption | exact Nat.add_zero _ | exact (show _ + 4 = _ from rfl) | exact (show _ + 3 = _ from rfl) | exact (show _ + 2 = _ from rfl) | exact (show _ + 1 = _ from rfl) | exact rfl); (case e9 => assumption); intro tk) | (refine' ob_tok (peek0_some ?R9 ?e9) rfl rfl ?_; (case R9 => walk_at "V rs"); (case e9 => assumption); intro t9 tp9 tk z9) | (refine' ob_val (peek0_none ?R9 ?e9) rfl rfl ?_; (case R9 => walk_at "V rs"); (case e9 => assumption); intro tk))
  | ((with_reducible show Ob _ (Tk.call (Value.ref 329) _) _ _ _ _); first | (refine' ob_val (is_kind_c ?R9 _ _ _ _ ?a9 ?b9 ?i9) rfl rfl ?_; (case R9 => walk_at "V rs"); (case a9 => first | omega | decide); (case b9 => first | omega | decide); (case i9 => first | assumption | exact Nat.add_zero _ | exact (show _ + 4 = _ from rfl) | exact (show _ + 3 = _ from rfl) | exact (show _ + 2 = _ from rfl) | exact (show _ + 1 = _ from rfl) | exact rfl); intro tk) | (refine' ob_val (is_kind0_c ?R9 _ _) rfl rfl ?_; (case R9 => walk_at "V rs"); intro tk))
  | ((with_reducible show Ob _ (Tk.call (Value.ref 394) _) _ _ _ _); first | (refine' ob_val (is_sign_c ?R9 _ _ _ _ ?a9 ?b9 ?i9) rfl rfl ?_; (case R9 => walk_at "V rs"); (case a9 => first | omega | decide); (case b9 => first | omega | decide); (case i9 => first | assumption | exact Nat.add_zero _ | exact (show _ + 4 = _ from rfl) | exact (show _ + 3 = _ from rfl) | exact (show _ + 2 = _ from rfl) | exact (show _ + 1 = _ from rfl) | exact rfl); intro tk) | (refine' ob_val (is_sign0_c ?R9 _ _) rfl rfl ?_; (case R9 => walk_at "V rs"); intro tk))
  | ((with_reducible show Ob _ (Tk.call (Value.ref 321) _) _ _ _ _); first | (refine' ob_mvtok (take_c ?R9 ?e9) rfl rfl ?_; (case R9 => walk_at "V rs"); (case e9 => assumption); intro pt9 t9 tp9 n9 tk Rn9 Kn9 z9))
  | ((with_reducible show Ob _ (Tk.call (Value.ref 336) _) _ _ _ _); first | (refine' ob_val (is_word_c ?R9 _ _ ?c9) rfl rfl ?_; (case R9 => walk_at "V rs"); (case c9 => first | assumption | decide +kernel); intro tk))
  | ((with_reducible show Ob _ (Tk.call (Value.ref 343) _) _ _ _ _); first | (refine' ob_mv (skip_yes ?R9 _ _ ?c9 ?e9) rfl rfl ?_; (case R9 => walk_at "V rs"); (case c9 => first | assumption | decide +kernel); (case e9 => assumption); intro pt9 n9 tk Rn9 Kn9) | (refine' ob_val (skip_no ?R9 _ _ ?c9 ?e9) rfl rfl ?_; (case R9 => walk_at "V rs"); (case c9 => first | assumption | decide +kernel); (case e9 => assumption); intro tk))
  | ((with_reducible show Ob _ (Tk.call (Value.ref 350) _) _ _ _ _); first | (refine' ob_mv (need_yes ?R9 _ _ ?c9 ?e9) rfl rfl ?_; (case R9 => walk_at "V rs"); (case c9 => first | assumption | decide +kernel); (case e9 => assumption); intro pt9 n9 tk Rn9 Kn9))
  | ((with_reducible show Ob _ (Tk.call (Value.ref 272) _) _ _ _ _); first | (refine' ob_val (is_reserved_c _ _ ?c9) rfl rfl ?_; (case c9 => first | assumption | decide +kernel); intro tk))
  | ((with_reducible show Ob _ (Tk.call (Value.ref 372) _) _ _ _ _); first | (refine' ob_val (is_name_c ?R9 ?g9) rfl rfl ?_; (case R9 => walk_at "V rs"); (case g9 => assumption); intro tk))
  | ((with_reducible show Ob _ (Tk.call (Value.ref 379) _) _ _ _ _); first | (refine' ob_mvv (name_c ?R9 ?g9 ?e9 ?f9) rfl rfl ?_; (case R9 => walk_at "V rs"); (case g9 => assumption); (case e9 => assumption); (case f9 => assumption); intro pt9 t9 n9 tk Rn9 Kn9))
  | ((with_reducible show Ob _ (Tk.call (Value.ref 401) _) _ _ _ _); first | (refine' ob_mv (skip_sign_yes ?R9 _ _ ?e9) rfl rfl ?_; (case R9 => walk_at "V rs"); (case e9 => assumption); intro pt9 n9 tk Rn9 Kn9) | (refine' ob_val (skip_sign_no ?R9 _ _ ?e9) rfl rfl ?_; (case R9 => walk_at "V rs"); (case e9 => assumption); intro tk))
  | ((with_reducible show Ob _ (Tk.call (Value.ref 408) _) _ _ _ _); first | (refine' ob_mv (need_sign_yes ?R9 _ _ ?e9) rfl rfl ?_; (case R9 => walk_at "V rs"); (case e9 => assumption); intro pt9 n9 tk Rn9 Kn9))
  | ((with_reducible show Ob _ (Tk.call (Value.ref 415) _) _ _ _ _); first | (refine' ob_val (is_number_c ?R9) rfl rfl ?_; (case R9 => walk_at "V rs"); intro tk))
  | ((with_reducible show Ob _ (Tk.call (Value.ref 244) _) _ _ _ _); first | (refine' ob_val (word_ahead_c ?R9 _ _ _ _ ?a9 ?b9 ?i9) rfl rfl ?_; (case R9 => walk_at "V rs"); (case a9 => first | omega | decide); (case b9 => first | omega | decide); (case i9 => first | assumption | exact Nat.add_zero _ | exact (show _ + 4 = _ from rfl) | exact (show _ + 3 = _ from rfl) | exact (show _ + 2 = _ from rfl) | exact (show _ + 1 = _ from rfl) | exact rfl); intro tk))
  | ((with_reducible show Ob _ (Tk.call (Value.ref 357) _) _ _ _ _); first | (refine' ob_valt (one_of_no ?R9 _ ?e9 ?f9) rfl rfl ?_; (case R9 => walk_at "V rs"); (case e9 => assumption); (case f9 => assumption); intro t9 tk) | (refine' ob_mvv (one_of_OF ?R9 _ ?e9) rfl rfl ?_; (case R9 => walk_at "V rs"); (case e9 => assumption); intro pt9 t9 n9 tk Rn9 Kn9) | (refine' ob_mvv (one_of_IN ?R9 _ ?e9 ?f9) rfl rfl ?_; (case R9 => walk_at "V rs"); (case e9 => assumption); (case f9 => assumption); intro pt9 t9 n9 tk Rn9 Kn9))
  | ((with_reducible show Ob _ (Tk.call (Value.ref 139) _) _ _ _ _); first | (refine' ob_val (ipn_no ?R9 ?e9) rfl rfl ?_; (case R9 => walk_at "V rs"); (case e9 => assumption); intro tk) | (refine' ob_val (ipn_part ?R9 ?e9 ?f9 ?h9) rfl rfl ?_; (case R9 => walk_at "V rs"); (case e9 => assumption); (case f9 => assumption); (case h9 => assumption); intro tk) | (refine' ob_val (ipn_sub ?R9 ?e9) rfl rfl ?_; (case R9 => walk_at "V rs"); (case e9 => assumption); intro tk))
  | ((with_reducible show Ob _ (Tk.call (Value.ref 195) _) _ _ _ _); first | (refine' ob_valt (sa_c ?R9 ?m9 ?s9 ?e9) rfl rfl ?_; (case R9 => walk_at "V rs"); (case m9 => k_mem); (case s9 => kde_strs); (case e9 => assumption); intro t9 tk))
  | ((with_reducible show Ob _ (Tk.call (Value.ref 124) _) _ _ _ _); first | (refine' ob_valt (wo_5 _ _ ?c9) rfl rfl ?_; (case c9 => first | assumption | decide +kernel); intro t9 tk) | (refine' ob_valt (wo_50 _ _ ?c9) rfl rfl ?_; (case c9 => first | assumption | decide +kernel); intro t9 tk))
  | ((with_reducible show Ob _ (Tk.call (Value.ref 89) _) _ _ _ _); first | (refine' ob_newp (dec_50 _ _) rfl rfl ?_; intro D9 t9 u9 tk l9) | (refine' ob_newp (dec_501 _ _) rfl rfl ?_; intro D9 t9 u9 tk l9) | (refine' ob_newp (dec_m50 _ _) rfl rfl ?_; intro D9 t9 u9 tk l9))
  | ((with_reducible show Ob _ (Tk.call (Value.ref 131) _) _ _ _ _); first | (refine' ob_newp (rd_5 _ _ ?c9) rfl rfl ?_; (case c9 => first | assumption | decide +kernel); intro D9 t9 u9 tk l9) | (refine' ob_newp (rd_50 _ _ ?c9) rfl rfl ?_; (case c9 => first | assumption | decide +kernel); intro D9 t9 u9 tk l9))
  | ((with_reducible show Ob _ (Tk.call (Value.ref 96) _) _ _ _ _); first | (refine' ob_newp (neg_c ?m9) rfl rfl ?_; (case m9 => k_mem); intro D9 t9 u9 tk l9))
  | ((with_reducible show Ob _ (Tk.call (Value.ref 277) _) _ _ _ _); first | (refine' ob_valt (oot_m _ _ ?c9) rfl rfl ?_; (case c9 => first | assumption | decide +kernel); intro t9 tk) | (refine' ob_valt (oot_ab _ _ ?c9) rfl rfl ?_; (case c9 => first | assumption | decide +kernel); intro t9 tk))
  | ((with_reducible show Ob _ (Tk.call (Value.ref 443) _) _ _ _ _); first | (refine' ob_mvv (octets_m ?R9 ?e9) rfl rfl ?_; (case R9 => walk_at "V rs"); (case e9 => assumption); intro pt9 t9 n9 tk Rn9 Kn9) | (refine' ob_mvv (octets_ab ?R9 ?e9) rfl rfl ?_; (case R9 => walk_at "V rs"); (case e9 => assumption); intro pt9 t9 n9 tk Rn9 Kn9))
  | ((with_reducible show Ob _ (Tk.call (Value.ref 422) _) _ _ _ _); first | (refine' ob_mvp (signed_m5 ?R9 ?e9 ?f9) rfl rfl ?_; (case R9 => walk_at "V rs"); (case e9 => assumption); (case f9 => assumption); intro pt9 D9 t9 u9 n9 tk Rn9 Kn9 z9) | (refine' ob_mvp (signed_p50 ?R9 ?e9 ?f9) rfl rfl ?_; (case R9 => walk_at "V rs"); (case e9 => assumption); (case f9 => assumption); intro pt9 D9 t9 u9 n9 tk Rn9 Kn9 z9) | (refine' ob_mvp (signed_5 ?R9 ?e9) rfl rfl ?_; (case R9 => walk_at "V rs"); (case e9 => assumption); intro pt9 D9 t9 u9 n9 tk Rn9 Kn9 z9))
  | ((with_reducible show Ob _ (Tk.call (Value.ref 174) _) _ _ _ _); first | (refine' ob_val (fig_K ?R9 ?e9) rfl rfl ?_; (case R9 => walk_at "V rs"); (case e9 => assumption); intro tk) | (refine' ob_ret (fig_ZEROS ?R9 ?e9) rfl rfl ?_; (case R9 => walk_at "V rs"); (case e9 => assumption); intro pt9 D9 n9 tk Rn9 Kn9 z9) | (refine' ob_ret (fig_QUOTES ?R9 ?e9) rfl rfl ?_; (case R9 => walk_at "V rs"); (case e9 => assumption); intro pt9 D9 n9 tk Rn9 Kn9 z9) | (refine' ob_ret (fig_SPACE ?R9 ?e9) rfl rfl ?_; (case R9 => walk_at "V rs"); (case e9 => assumption); intro pt9 D9 n9 tk Rn9 Kn9 z9) | (refine' ob_ret (fig_HIGHVALUE ?R9 ?e9) rfl rfl ?_; (case R9 => walk_at "V rs"); (case e9 => assumption); intro pt9 D9 n9 tk Rn9 Kn9 z9) | (refine' ob_ret (fig_LOWVALUES ?R9 ?e9) rfl rfl ?_; (case R9 => walk_at "V rs"); (case e9 => assumption); intro pt9 D9 n9 tk Rn9 Kn9 z9) | (refine' ob_ret (fig_ZERO ?R9 ?e9) rfl rfl ?_; (case R9 => walk_at "V rs"); (case e9 => assumption); intro pt9 D9 n9 tk Rn9 Kn9 z9))
  | ((with_reducible show Ob _ (Tk.call (Value.ref 167) _) _ _ _ _); first | (refine' ob_ret (all_ab ?R9 ?e9) rfl rfl ?_; (case R9 => walk_at "V rs"); (case e9 => assumption); intro pt9 D9 n9 tk Rn9 Kn9 z9) | (refine' ob_ret (all_ZEROS ?R9 ?e9) rfl rfl ?_; (case R9 => walk_at "V rs"); (case e9 => assumption); intro pt9 D9 n9 tk Rn9 Kn9 z9))
  | ((with_reducible show Ob _ (Tk.call (Value.ref 181) _) _ _ _ _); first | (refine' ob_ret (ro_5 ?R9 _ ?e9) rfl rfl ?_; (case R9 => walk_at "V rs"); (case e9 => assumption); intro pt9 D9 n9 tk Rn9 Kn9 z9) | (refine' ob_ret (ro_m5 ?R9 _ ?e9 ?f9) rfl rfl ?_; (case R9 => walk_at "V rs"); (case e9 => assumption); (case f9 => assumption); intro pt9 D9 n9 tk Rn9 Kn9 z9) | (refine' ob_ret (ro_p50 ?R9 _ ?e9 ?f9) rfl rfl ?_; (case R9 => walk_at "V rs"); (case e9 => assumption); (case f9 => assumption); intro pt9 D9 n9 tk Rn9 Kn9 z9) | (refine' ob_ret (ro_lit ?R9 _ ?e9) rfl rfl ?_; (case R9 => walk_at "V rs"); (case e9 => assumption); intro pt9 D9 n9 tk Rn9 Kn9 z9) | (refine' ob_ret (ro_allab ?R9 _ ?e9 ?f9) rfl rfl ?_; (case R9 => walk_at "V rs"); (case e9 => assumption); (case f9 => assumption); intro pt9 D9 n9 tk Rn9 Kn9 z9) | (refine' ob_ret (ro_allZEROS ?R9 _ ?e9 ?f9) rfl rfl ?_; (case R9 => walk_at "V rs"); (case e9 => assumption); (case f9 => assumption); intro pt9 D9 n9 tk Rn9 Kn9 z9) | (refine' ob_ret (ro_QUOTES ?R9 _ ?e9) rfl rfl ?_; (case R9 => walk_at "V rs"); (case e9 => assumption); intro pt9 D9 n9 tk Rn9 Kn9 z9) | (refine' ob_ret (ro_SPACE ?R9 _ ?e9) rfl rfl ?_; (case R9 => walk_at "V rs"); (case e9 => assumption); intro pt9 D9 n9 tk Rn9 Kn9 z9) | (refine' ob_ret (ro_HIGHVALUE ?R9 _ ?e9) rfl rfl ?_; (case R9 => walk_at "V rs"); (case e9 => assumption); intro pt9 D9 n9 tk Rn9 Kn9 z9) | (refine' ob_ret (ro_LOWVALUES ?R9 _ ?e9) rfl rfl ?_; (case R9 => walk_at "V rs"); (case e9 => assumption); intro pt9 D9 n9 tk Rn9 Kn9 z9) | (refine' ob_ret (ro_ZERO ?R9 _ ?e9) rfl rfl ?_; (case R9 => walk_at "V rs"); (case e9 => assumption); intro pt9 D9 n9 tk Rn9 Kn9 z9))
  | ((with_reducible show Ob _ (Tk.call (Value.ref 237) _) _ _ _ _); first | (refine' ob_ret (rp_5 ?R9 _ ?e9) rfl rfl ?_; (case R9 => walk_at "V rs"); (case e9 => assumption); intro pt9 D9 n9 tk Rn9 Kn9 z9))
  | ((with_reducible show Ob _ (Tk.call (Value.ref 230) _) _ _ _ _); first | (refine' ob_ret (rpow_5 ?R9 _ ?e9 ?f9) rfl rfl ?_; (case R9 => walk_at "V rs"); (case e9 => assumption); (case f9 => assumption); intro pt9 D9 n9 tk Rn9 Kn9 z9))
  | ((with_reducible show Ob _ (Tk.call (Value.ref 216) _) _ _ _ _); first | (refine' ob_ret (rfac_5 ?R9 _ ?e9 ?f9) rfl rfl ?_; (case R9 => walk_at "V rs"); (case e9 => assumption); (case f9 => assumption); intro pt9 D9 n9 tk Rn9 Kn9 z9))
  | ((with_reducible show Ob _ (Tk.call (Value.ref 209) _) _ _ _ _); first | (refine' ob_ret (rprod_5 ?R9 _ ?e9 ?f9 ?h9) rfl rfl ?_; (case R9 => walk_at "V rs"); (case e9 => assumption); (case f9 => assumption); (case h9 => assumption); intro pt9 D9 n9 tk Rn9 Kn9 z9))
  | ((with_reducible show Ob _ (Tk.call (Value.ref 202) _) _ _ _ _); first | (refine' ob_ret (rsum_5 ?R9 _ ?e9 ?f9 ?h9 ?j9) rfl rfl ?_; (case R9 => walk_at "V rs"); (case e9 => assumption); (case f9 => assumption); (case h9 => assumption); (case j9 => assumption); intro pt9 D9 n9 tk Rn9 Kn9 z9) | (refine' ob_ret (rsum_55 ?R9 _ ?e9 ?f9 ?h9 ?j9 ?k9 ?l9) rfl rfl ?_; (case R9 => walk_at "V rs"); (case e9 => assumption); (case f9 => assumption); (case h9 => assumption); (case j9 => assumption); (case k9 => assumption); (case l9 => assumption); intro pt9 D9 n9 tk Rn9 Kn9 z9))
  | ((with_reducible show Ob _ (Tk.call (Value.ref 188) _) _ _ _ _); first | (refine' ob_ret (rexp_5 ?R9 ?e9 ?f9 ?h9 ?j9) rfl rfl ?_; (case R9 => walk_at "V rs"); (case e9 => assumption); (case f9 => assumption); (case h9 => assumption); (case j9 => assumption); intro pt9 D9 n9 tk Rn9 Kn9 z9) | (refine' ob_ret (rexp_55 ?R9 ?e9 ?f9 ?h9 ?j9 ?k9 ?l9) rfl rfl ?_; (case R9 => walk_at "V rs"); (case e9 => assumption); (case f9 => assumption); (case h9 => assumption); (case j9 => assumption); (case k9 => assumption); (case l9 => assumption); intro pt9 D9 n9 tk Rn9 Kn9 z9))
  | ((with_reducible show Ob _ (Tk.call (Value.ref 146) _) _ _ _ _); first | (refine' ob_ret (rsubs ?R9 ?e9) rfl rfl ?_; (case R9 => walk_at "V rs"); (case e9 => assumption); intro pt9 D9 n9 tk Rn9 Kn9 z9))
  | ((with_reducible show Ob _ (Tk.call (Value.ref 153) _) _ _ _ _); first | (refine' ob_ret (rpart ?R9 ?e9) rfl rfl ?_; (case R9 => walk_at "V rs"); (case e9 => assumption); intro pt9 D9 n9 tk Rn9 Kn9 z9))
  | ((with_reducible show Ob _ (Tk.call (Value.ref 160) _) _ _ _ _); first | (refine' ob_ret (rref_K ?R9 ?g9 ?e9 ?f9) rfl rfl ?_; (case R9 => walk_at "V rs"); (case g9 => assumption); (case e9 => assumption); (case f9 => assumption); intro pt9 D9 n9 tk Rn9 Kn9 z9) | (refine' ob_ret (rref_KRF ?R9 ?g9 ?e9 ?f9 ?h9 ?j9 ?k9 ?l9) rfl rfl ?_; (case R9 => walk_at "V rs"); (case g9 => assumption); (case e9 => assumption); (case f9 => assumption); (case h9 => assumption); (case j9 => assumption); (case k9 => assumption); (case l9 => assumption); intro pt9 D9 n9 tk Rn9 Kn9 z9) | (refine' ob_ret (rref_sub ?R9 ?g9 ?e9 ?f9 ?h9) rfl rfl ?_; (case R9 => walk_at "V rs"); (case g9 => assumption); (case e9 => assumption); (case f9 => assumption); (case h9 => assumption); intro pt9 D9 n9 tk Rn9 Kn9 z9) | (refine' ob_ret (rref_part ?R9 ?g9 ?e9 ?f9) rfl rfl ?_; (case R9 => walk_at "V rs"); (case g9 => assumption); (case e9 => assumption); (case f9 => assumption); intro pt9 D9 n9 tk Rn9 Kn9 z9))
  | ((with_reducible show Ob _ (Tk.call (Value.ref 251) _) _ _ _ _); first | (refine' ob_val (begins_c ?R9 ?g9) rfl rfl ?_; (case R9 => walk_at "V rs"); (case g9 => assumption); intro tk))
  | ((with_reducible show Ob _ (Tk.call (Value.ref 476) _) _ _ _ _); first | (refine' ob_newtok (tok_new _ _ _ _ _) rfl rfl ?_; intro T9 n9 tk z9))
  | ((with_reducible show Ob _ (Tk.call (Value.ref 446) _) _ _ _ _); first | (refine' ob_newrdr (rdr_new _) rfl rfl ?_; intro T9 n9 tk z9))
  | ((with_reducible show Ob _ (Tk.call (Value.ref 504) _) _ _ _ _); first | (refine' ob_newtl (lw_D _ _ ?c9) rfl rfl ?_; (case c9 => first | assumption | decide +kernel); intro T9 n9 tk z9) | (refine' ob_newtl (lw_NA _ _ ?c9) rfl rfl ?_; (case c9 => first | assumption | decide +kernel); intro T9 n9 tk z9) | (refine' ob_newtl (lw_WNA _ _ ?c9) rfl rfl ?_; (case c9 => first | assumption | decide +kernel); intro T9 n9 tk z9) | (refine' ob_newtl (lw_E _ _ ?c9) rfl rfl ?_; (case c9 => first | assumption | decide +kernel); intro T9 n9 tk z9))))
  (k_with "V step" => (first
  | (refine (?_ : Ob _ _ _ _ _ _); walk_at "V ob")
  | (refine (?_ : IfB _ _ _); walk_at "V if")
  | ((with_reducible show ForR _ _ _ _ _ _ (_ :: _) _ _); intro it9 tk hc9)
  | ((with_reducible show ForR _ _ _ _ _ _ [] _ _); intro tk)
  | (refine (?_ : End _ _ _); fail_if_success skip)))
  (k_with "V steps" => (repeat' walk_at "V step"))
  (k_with "k_mem" => (first | with_reducible assumption | (refine List.mem_cons_of_mem _ ?_; k_mem)))
  (k_with "V memtail" => (first | exact h9 | (refine List.mem_cons_of_mem _ ?_; walk_at "V memtail")))
  (k_with "V above" => (first | assumption | (intro x9 h9; exact (‹∀ p : Addr × Obj, p ∈ (_ : List (Addr × Obj)) → p.1 < _› x9 (by walk_at "V memtail"))) | (refine' above_kept ?l9 ?R9 ?K9; (case l9 => assumption); (case R9 => walk_at "V rs"); (case K9 => walk_at "V keeps"))))
  (k_with "V dat" => (first
  | assumption
  | exact DatIn.tuple (by k_mem) DatAll.nil
  | (refine' dat_cons ?_; walk_at "V dat")
  | (refine' datKept ?K9 ?R9 ?z9 ?f9; (case K9 => assumption); (case R9 => walk_at "V rs"); (case f9 => first | assumption | rfl | decide); (case z9 => walk_at "V dat"))
  | (refine' datSet ?m9 ?R9 ?z9 ?f9; (case m9 => k_mem); (case R9 => walk_at "V rs"); (case f9 => first | assumption | rfl | decide); (case z9 => walk_at "V dat"))))
  (k_with "V keeps" => (first
  | exact Keeps.refl _ _
  | assumption
  | (refine' keeps_cons ?_; walk_at "V keeps")
  | (refine' keeps_setL ?k9 ?l9; (case l9 => (refine' ne_above ?_; walk_at "V above")); (case k9 => walk_at "V keeps"))
  | (refine' Keeps.trans ?k9 ?l9; (case l9 => assumption); (case k9 => walk_at "V keeps"))))
  (k_with "V mvend" => ((refine' ⟨_, ?R9, ?K9⟩; (case R9 => walk_at "V rs"); (case K9 => walk_at "V keeps"))))
  (k_with "V tlne" => (first | assumption | (refine' RS.tlne ?R9 ?a9; (case a9 => first | assumption); (case R9 => walk_at "V rs"))))
  (k_with "V rs" => (first | with_reducible assumption | (refine' RS.cons ?lt9 ?rs9; (case lt9 => assumption); (case rs9 => walk_at "V rs")) | (refine' RS.setL ?m9 ?ne9 ?rs9; (case m9 => k_mem); (case ne9 => first | assumption | exact RS.tlne R (by walk_at "V above")); (case rs9 => walk_at "V rs"))))
  (k_with "V dats" => (first
  | assumption
  | (refine' datAll_cons ?_; walk_at "V dats")
  | (refine' datAllKept ?K9 ?R9 ?z9 ?f9; (case K9 => assumption); (case R9 => walk_at "V rs"); (case f9 => first | assumption | rfl | decide); (case z9 => walk_at "V dats"))
  | (refine' datAllSet ?m9 ?R9 ?z9 ?f9; (case m9 => k_mem); (case R9 => walk_at "V rs"); (case f9 => first | assumption | rfl | decide); (case z9 => walk_at "V dats"))))
  (k_with "V kmem" => (first | with_reducible assumption | exact List.mem_cons_self | (refine List.mem_cons_of_mem _ ?_; walk_at "V kmem") | (exact keptL (by with_reducible assumption) (by walk_at "V rs") (by walk_at "V kmem"))))
  (k_with "V more" => (first
  | ((with_reducible show Ob _ (Tk.meth (Value.ref _) (⟨⟨[97, 112, 112, 101, 110, 100]⟩⟩ : Str) _ _) _ _ _ _); refine' ob_appM ?m9 rfl ?_; (case m9 => walk_at "V kmem"))
  | ((with_reducible show Ob _ (Tk.call (Value.builtin "list.append") _) _ _ _ _); refine' ob_appendR ?m9 ?R9 ?k9 ?z9 ?_; (case m9 => walk_at "V kmem"); (case R9 => walk_at "V rs"); (case k9 => walk_at "V tlne"); (case z9 => first | exact Nat.le_trans (by omega : _ ≤ 64) (by decide) | exact Nat.le_of_ble_eq_true rfl); intro Rn9 hm9)
  | ((with_reducible show Ob _ (Tk.call (Value.type "tuple") [Value.ref _]) _ _ _ _); refine' ob_tupleOf ?m9 ?e9 ?z9 ?_; (case m9 => walk_at "V kmem"); (case e9 => exact rfl); (case z9 => first | exact Nat.le_of_ble_eq_true rfl | exact Nat.le_trans (by omega : _ ≤ 64) (by decide)); intro D9 l9)))
  trivial
namespace Mine
theorem kw_R1_1 : True := by
  (k_with "V more" => ((fail_if_success k_extra "past R1"); (((with_reducible show Ob _ (Tk.sub _ _ (Value.ref _) (Value.int _ _)) _ _ _ _); refine' ob_item ?m9 ?a9 ?b9 hit ?s9 ?_; (case m9 => k_mem); (case a9 => omega); (case b9 => omega); (case s9 => with_unfolding_all rfl)))))
  trivial
section
variable {G : Gl} {news : News'} {r : Addr} {q : RP} {ts : Toks} {p : Nat} {pt : Tok}
theorem peek_some (R : RS news r q ts p pt) (k : Int) (kt : Tok) (h0 : 0 ≤ k) (h1 : k < 4096) {i : Nat} (hi : p + k.toNat = i) {kd wo : Str} (e : ts[i]? = some (kd, wo)) :
    Con G 300 [.ref r, .int k kt] news 4 32 (fun news' v => news' = news ∧ ∃ t tp, v = .ref t ∧ TokAt news t tp kd wo) := by
  obtain ⟨its, ln, hl, hsz, hts⟩ := R.list
  have hsm := R.small
  obtain ⟨t, tp, h2, ht⟩ := hts _ _ _ e
  have hit : its[((p : Int) + k).toNat]? = some (.ref t) := by rw [show ((p : Int) + k).toNat = i by omega]; exact h2
  have hlt : (p : Int) + k < its.size := by
    have := (Array.getElem?_eq_some_iff.mp hit).1; omega
  walk_at "V enter"
  walk_at "V steps"
  walk_at "V end"
  exact ⟨rfl, t, tp, rfl, ht⟩
theorem peek_none (R : RS news r q ts p pt) (k : Int) (kt : Tok) (h0 : 0 ≤ k) (h1 : k < 4096) {i : Nat} (hi : p + k.toNat = i) (e : ts[i]? = none) :
    Con G 300 [.ref r, .int k kt] news 4 32 (fun news' v => news' = news ∧ v = .none) := by
  obtain ⟨its, ln, hl, hsz, hts⟩ := R.list
  have hsm := R.small
  have hno : ¬ ((p : Int) + k < its.size) := by have := List.getElem?_eq_none_iff.mp e; omega
  walk_at "V enter"
  walk_at "V steps"
  walk_at "V end"
  exact ⟨rfl, rfl⟩
theorem peek0_some (R : RS news r q ts p pt) {kd wo : Str} (e : ts[p]? = some (kd, wo)) :
    Con G 300 [.ref r] news 4 32 (fun news' v => news' = news ∧ ∃ t tp, v = .ref t ∧ TokAt news t tp kd wo) := by
  obtain ⟨its, ln, hl, hsz, hts⟩ := R.list
  have hsm := R.small
  obtain ⟨t, tp, h2, ht⟩ := hts _ _ _ e
  have hit : its[((p : Int) + 0).toNat]? = some (.ref t) := by rw [show ((p : Int) + 0).toNat = p by omega]; exact h2
  have hlt : (p : Int) + 0 < its.size := by
    have := (Array.getElem?_eq_some_iff.mp hit).1; omega
  refine' con_byD [.ref r, .int 0 605] ?ho ?hcd ?hb ?hm ?hl ?g1 ?g2 ?g3 ?hc ?hn ?_
  walk_at "V by"
  intro X tk hret
  walk_at "V steps"
  walk_at "V end"
  exact ⟨rfl, t, tp, rfl, ht⟩
theorem peek0_none (R : RS news r q ts p pt) (e : ts[p]? = none) :
    Con G 300 [.ref r] news 4 32 (fun news' v => news' = news ∧ v = .none) := by
  obtain ⟨its, ln, hl, hsz, hts⟩ := R.list
  have hsm := R.small
  have hno : ¬ ((p : Int) + 0 < its.size) := by have := List.getElem?_eq_none_iff.mp e; omega
  refine' con_byD [.ref r, .int 0 605] ?ho ?hcd ?hb ?hm ?hl ?g1 ?g2 ?g3 ?hc ?hn ?_
  walk_at "V by"
  intro X tk hret
  walk_at "V steps"
  walk_at "V end"
  exact ⟨rfl, rfl⟩
end
theorem kw_R1_end : True := by
  (k_with "past R1" => skip)
  trivial
end Mine
end
noncomputable section
open PySem PySem.W PyProof.Rows PySem.Calls
set_option Elab.async false
set_option maxRecDepth 100000
set_option maxHeartbeats 4000000
namespace Mine
section
variable {G : Gl} {news : News'} {r : Addr} {q : RP} {ts : Toks} {p : Nat} {pt : Tok}
theorem is_kind_c (R : RS news r q ts p pt) (kd : Str) (dt : Tok) (k : Int) (kt : Tok) (h0 : 0 ≤ k) (h1 : k < 4096) {i : Nat} (hi : p + k.toNat = i) :
    Con G 329 [.ref r, .str kd dt, .int k kt] news 6 48 (fun news' v => news' = news ∧ v = .bool (isK ts i kd)) := by
  unfold isK
  cases e : ts[i]? with
  | some x =>
    obtain ⟨k', w'⟩ := x
    walk_at "V enter"
    walk_at "V steps"
    walk_at "V end"
    exact ⟨rfl, rfl⟩
  | none =>
    walk_at "V enter"
    walk_at "V steps"
    walk_at "V end"
    exact ⟨rfl, rfl⟩
theorem is_kind0_c (R : RS news r q ts p pt) (kd : Str) (dt : Tok) :
    Con G 329 [.ref r, .str kd dt] news 6 48 (fun news' v => news' = news ∧ v = .bool (isK ts p kd)) := by
  unfold isK
  cases e : ts[p]? with
  | some x =>
    obtain ⟨k', w'⟩ := x
    refine' con_byD [.ref r, .str kd dt, .int 0 637] ?ho ?hcd ?hb ?hm ?hl ?g1 ?g2 ?g3 ?hc ?hn ?_
    walk_at "V by"
    intro X tk hret
    walk_at "V steps"
    walk_at "V end"
    exact ⟨rfl, rfl⟩
  | none =>
    refine' con_byD [.ref r, .str kd dt, .int 0 637] ?ho ?hcd ?hb ?hm ?hl ?g1 ?g2 ?g3 ?hc ?hn ?_
    walk_at "V by"
    intro X tk hret
    walk_at "V steps"
    walk_at "V end"
    exact ⟨rfl, rfl⟩
theorem is_sign_c (R : RS news r q ts p pt) (sg : Str) (dt : Tok) (k : Int) (kt : Tok) (h0 : 0 ≤ k) (h1 : k < 4096) {i : Nat} (hi : p + k.toNat = i) :
    Con G 394 [.ref r, .str sg dt, .int k kt] news 8 60 (fun news' v => news' = news ∧ v = .bool (isKW ts i sSign sg)) := by
  cases e : ts[i]? with
  | some x =>
    obtain ⟨k', w'⟩ := x
    have e2 : isKW ts (i) sSign sg = (isK ts (i) sSign && w' == sg) := by simp only [isKW, isK, e]
    rw [e2]
    walk_at "V enter"
    walk_at "V steps"
    all_goals (walk_at "V end"; simp_all)
  | none =>
    have e2 : isKW ts (i) sSign sg = false := by simp only [isKW, e]
    have e3 : isK ts (i) sSign = false := by simp only [isK, e]
    rw [e2]
    walk_at "V enter"
    walk_at "V steps"
    all_goals (walk_at "V end"; simp_all)
theorem take_c (R : RS news r q ts p pt) {kd wo : Str} (e : ts[p]? = some (kd, wo)) :
    Con G 321 [.ref r] news 6 48 (fun news' v => MV news r q ts (p + 1) news' ∧ ∃ t tp, v = .ref t ∧ TokAt news' t tp kd wo) := by
  have hlt := (List.getElem?_eq_some_iff.mp e).1
  walk_at "V enter"
  walk_at "V steps"
  walk_at "V end"
  exact ⟨⟨_, Rn9, Kn9⟩, t9, tp9, rfl, TokAt.kept z9 R Kn9⟩
theorem is_sign0_c (R : RS news r q ts p pt) (sg : Str) (dt : Tok) :
    Con G 394 [.ref r, .str sg dt] news 8 60 (fun news' v => news' = news ∧ v = .bool (isKW ts p sSign sg)) := by
  cases e : ts[p]? with
  | some x =>
    obtain ⟨k', w'⟩ := x
    have e2 : isKW ts p sSign sg = (isK ts p sSign && w' == sg) := by simp only [isKW, isK, e]
    rw [e2]
    refine' con_byD [.ref r, .str sg dt, .int 0 713] ?ho ?hcd ?hb ?hm ?hl ?g1 ?g2 ?g3 ?hc ?hn ?_
    walk_at "V by"
    intro X tk hret
    walk_at "V steps"
    all_goals (walk_at "V end"; simp_all)
  | none =>
    have e2 : isKW ts p sSign sg = false := by simp only [isKW, e]
    have e3 : isK ts p sSign = false := by simp only [isK, e]
    rw [e2]
    refine' con_byD [.ref r, .str sg dt, .int 0 713] ?ho ?hcd ?hb ?hm ?hl ?g1 ?g2 ?g3 ?hc ?hn ?_
    walk_at "V by"
    intro X tk hret
    walk_at "V steps"
    all_goals (walk_at "V end"; simp_all)
theorem skip_sign_no (R : RS news r q ts p pt) (sg : Str) (dt : Tok) (e : isKW ts p sSign sg = false) :
    Con G 401 [.ref r, .str sg dt] news 10 72 (fun news' v => news' = news ∧ v = .bool false) := by
  walk_at "V enter"
  walk_at "V steps"
  all_goals (walk_at "V end"; exact ⟨rfl, rfl⟩)
theorem isKW_lt {ts : Toks} {i : Nat} {k w : Str} (e : isKW ts i k w = true) : i < ts.length := by
  unfold isKW at e
  split at e
  · rename_i x h; exact (List.getElem?_eq_some_iff.mp h).1
  · cases e
theorem skip_sign_yes (R : RS news r q ts p pt) (sg : Str) (dt : Tok) (e : isKW ts p sSign sg = true) :
    Con G 401 [.ref r, .str sg dt] news 10 72 (fun news' v => MV news r q ts (p + 1) news' ∧ v = .bool true) := by
  have hlt := isKW_lt e
  walk_at "V enter"
  walk_at "V steps"
  all_goals (walk_at "V end"; exact ⟨⟨_, Rn9, Kn9⟩, rfl⟩)
theorem need_sign_yes (R : RS news r q ts p pt) (sg : Str) (dt : Tok) (e : isKW ts p sSign sg = true) :
    Con G 408 [.ref r, .str sg dt] news 12 84 (fun news' v => MV news r q ts (p + 1) news' ∧ v = .none) := by
  walk_at "V enter"
  walk_at "V steps"
  all_goals (walk_at "V end"; exact ⟨⟨_, Rn9, Kn9⟩, rfl⟩)
/-- does a number stand here, with a sign or without -/
noncomputable def isNum (ts : Toks) (p : Nat) : Bool := if isKW ts p sSign sPlus || isKW ts p sSign sMinus then isK ts (p + 1) sNumber else isK ts p sNumber
theorem is_number_c (R : RS news r q ts p pt) :
    Con G 415 [.ref r] news 10 72 (fun news' v => news' = news ∧ v = .bool (isNum ts p)) := by
  unfold isNum
  walk_at "V enter"
  walk_at "V steps"
  all_goals (walk_at "V end"; simp_all)
end
end Mine
end
noncomputable section
open PySem PySem.W PyProof.Rows PySem.Calls
set_option Elab.async false
set_option maxRecDepth 100000
set_option maxHeartbeats 4000000
namespace Mine
noncomputable abbrev nRES : Str := ⟨⟨[82, 69, 83, 69, 82, 86, 69, 68]⟩⟩
noncomputable def resX (P : Params) : Str := match nsIn (KN P) mainGlobals nRES with | some (some (.str x _)) => x | _ => Str.empty
theorem res_name (P : Params) : nsIn (KN P) mainGlobals nRES = some (some (.str (resX P) 568)) := by kernel_rfl!
/-- does the one list stand in the other -/
noncomputable def hasSub (y : List Nat) : List Nat → Bool
  | [] => y.isPrefixOf []
  | c :: r => y.isPrefixOf (c :: r) || hasSub y r
theorem hasSub_iff (y : List Nat) : ∀ x : List Nat, hasSub y x = true ↔ ∃ i, i + y.length ≤ x.length ∧ (x.drop i).take y.length = y
  | [] => by
    rw [hasSub, List.isPrefixOf_iff_prefix]
    constructor
    · intro h
      have := List.prefix_nil.mp h
      subst this
      exact ⟨0, by simp, by simp⟩
    · rintro ⟨i, h, e⟩
      have : y.length = 0 := by simp only [List.length_nil] at h; omega
      rw [List.length_eq_zero_iff.mp this]; exact List.nil_prefix
  | c :: r => by
    rw [hasSub, Bool.or_eq_true, List.isPrefixOf_iff_prefix, hasSub_iff y r]
    constructor
    · rintro (h | ⟨i, h, e⟩)
      · exact ⟨0, by simpa using h.length_le, by simpa using (List.prefix_iff_eq_take.mp h).symm⟩
      · exact ⟨i + 1, by simp; omega, by simpa using e⟩
    · rintro ⟨i, h, e⟩
      cases i with
      | zero => exact Or.inl (List.prefix_iff_eq_take.mpr (by simpa using e.symm))
      | succ i => exact Or.inr ⟨i, by simp only [List.length_cons] at h; omega, by simpa using e⟩
theorem found_sub (x y : Str) : (!(Builtin.Str.occurrences x y 0 x.length 1).isEmpty) = hasSub y.cps.toList x.cps.toList := by
  rw [Bool.eq_iff_iff, StrLaws.found_iff, hasSub_iff]
  refine exists_congr fun i => and_congr (by simp [Str.length]) ?_
  rw [StrLaws.subAt_eq, beq_iff_eq]
  simp [Str.length]
noncomputable def resv (P : Params) (wd : Str) : Bool := hasSub (32 :: (wd.cps.toList ++ [32])) (resX P).cps.toList
theorem resv_is (P : Params) (wd : Str) : (!(Builtin.Str.occurrences (resX P) ((⟨⟨[32]⟩⟩ : Str) ++ wd ++ (⟨⟨[32]⟩⟩ : Str)) 0 (resX P).length 1).isEmpty) = resv P wd := by
  rw [found_sub]; unfold resv
  simp [Str.cps_append]
theorem resv_K (P : Params) : resv P ⟨⟨[75]⟩⟩ = false := by kernel_rfl!
theorem resv_R (P : Params) : resv P ⟨⟨[82]⟩⟩ = false := by kernel_rfl!
theorem resv_F (P : Params) : resv P ⟨⟨[70]⟩⟩ = false := by kernel_rfl!
theorem resv_NO (P : Params) : resv P ⟨⟨[78, 79]⟩⟩ = true := by kernel_rfl!
theorem resv_WITH (P : Params) : resv P ⟨⟨[87, 73, 84, 72]⟩⟩ = true := by kernel_rfl!
theorem resv_ADVANCING (P : Params) : resv P ⟨⟨[65, 68, 86, 65, 78, 67, 73, 78, 71]⟩⟩ = true := by kernel_rfl!
theorem resv_ELSE (P : Params) : resv P ⟨⟨[69, 76, 83, 69]⟩⟩ = true := by kernel_rfl!
theorem resv_DISPLAY (P : Params) : resv P ⟨⟨[68, 73, 83, 80, 76, 65, 89]⟩⟩ = true := by kernel_rfl!
theorem resv_ENDIF (P : Params) : resv P ⟨⟨[69, 78, 68, 45, 73, 70]⟩⟩ = true := by kernel_rfl!
theorem resv_ALL (P : Params) : resv P ⟨⟨[65, 76, 76]⟩⟩ = true := by kernel_rfl!
theorem resv_ZEROS (P : Params) : resv P ⟨⟨[90, 69, 82, 79, 83]⟩⟩ = true := by kernel_rfl!
theorem resv_QUOTES (P : Params) : resv P ⟨⟨[81, 85, 79, 84, 69, 83]⟩⟩ = true := by kernel_rfl!
theorem resv_SPACE (P : Params) : resv P ⟨⟨[83, 80, 65, 67, 69]⟩⟩ = true := by kernel_rfl!
theorem resv_HIGHVALUE (P : Params) : resv P ⟨⟨[72, 73, 71, 72, 45, 86, 65, 76, 85, 69]⟩⟩ = true := by kernel_rfl!
theorem resv_LOWVALUES (P : Params) : resv P ⟨⟨[76, 79, 87, 45, 86, 65, 76, 85, 69, 83]⟩⟩ = true := by kernel_rfl!
theorem resv_ZERO (P : Params) : resv P ⟨⟨[90, 69, 82, 79]⟩⟩ = true := by kernel_rfl!
theorem kw_R5_1 : True := by
  (k_with "V more" => ((fail_if_success k_extra "past R5"); (first
  | ((with_reducible show Ob _ (Tk.ev (PySem.Expr.Name (⟨⟨[82, 69, 83, 69, 82, 86, 69, 68]⟩⟩ : Str) _)) _ _ _ _); refine ob_glob (res_name _) rfl ?_)
  | ((with_reducible show Ob _ (Tk.bin Operator.Add (Value.str _ _) (Value.str _ _)) _ _ _ _); (first | (refine' ob_addS (k := 1 + 64) (l := 1) ?a9 ?b9 (by decide) ?_; (case a9 => assumption); (case b9 => decide)) | (refine' ob_addS (k := 1) (l := 64) ?a9 ?b9 (by decide) ?_; (case a9 => decide); (case b9 => assumption))); intro t9 tk e9)
  | ((with_reducible show Ob _ (Tk.cmp CmpOp.In (Value.str _ _) (Value.str _ _)) _ _ _ _); refine ob_inS ?_))))
  trivial
section
variable {G : Gl} {news : News'} {r : Addr} {q : RP} {ts : Toks} {p : Nat} {pt : Tok}
theorem is_word_c (R : RS news r q ts p pt) (wd : Str) (dt : Tok) (ow : One wd) :
    Con G 336 [.ref r, .str wd dt] news 8 60 (fun news' v => news' = news ∧ v = .bool (isKW ts p sWord wd)) := by
  cases e : ts[p]? with
  | some x =>
    obtain ⟨k', w'⟩ := x
    have e2 : isKW ts p sWord wd = (isK ts p sWord && w' == wd) := by simp only [isKW, isK, e]
    rw [e2]
    walk_at "V enter"
    walk_at "V steps"
    all_goals (walk_at "V endsame"; simp_all)
  | none =>
    have e2 : isKW ts p sWord wd = false := by simp only [isKW, e]
    have e3 : isK ts p sWord = false := by simp only [isK, e]
    rw [e2]
    walk_at "V enter"
    walk_at "V steps"
    all_goals (walk_at "V endsame"; simp_all)
theorem is_reserved_c (wd : Str) (dt : Tok) (hwl : wd.length ≤ 64) :
    Con G 272 [.str wd dt] news 4 40 (fun news' v => news' = news ∧ v = .bool (resv G.w.params wd)) := by
  walk_at "V enter"
  walk_at "V steps"
  walk_at "V end"
  exact ⟨rfl, congrArg Value.bool (resv_is _ _)⟩
end
theorem kw_R5_end : True := by
  (k_with "past R5" => skip)
  trivial
end Mine
end
noncomputable section
open PySem PySem.W PyProof.Rows PySem.Calls
set_option Elab.async false
set_option maxRecDepth 100000
set_option maxHeartbeats 4000000
namespace Mine
theorem AllLt.some {l : News'} {i : Addr} {d : Addr} {o : Obj} (h : ∀ x ∈ l, x.1 < i) (m : (d, o) ∈ l) : d < i := h _ m
/-- no word is long -/
noncomputable abbrev Small (ts : Toks) : Prop := ∀ x ∈ ts, x.2.length ≤ 64
noncomputable def isName (P : Params) (ts : Toks) (i : Nat) : Bool := match ts[i]? with
  | some x => x.1 == sWord && !resv P x.2
  | none => false
theorem MV.less {news news' : News'} {x : Addr × Obj} {r : Addr} {q : RP} {ts : Toks} {p : Nat} (h : MV (x :: news) r q ts p news') : MV news r q ts p news' := by
  obtain ⟨pt, h1, h2⟩ := h
  exact ⟨pt, h1, fun y hy => h2 y (List.mem_cons_of_mem _ hy)⟩
section
variable {G : Gl} {news : News'} {r : Addr} {q : RP} {ts : Toks} {p : Nat} {pt : Tok}
theorem skip_no (R : RS news r q ts p pt) (wd : Str) (dt : Tok) (ow : One wd) (e : isKW ts p sWord wd = false) :
    Con G 343 [.ref r, .str wd dt] news 10 72 (fun news' v => news' = news ∧ v = .bool false) := by
  walk_at "V enter"
  walk_at "V steps"
  all_goals (walk_at "V endsame"; rfl)
theorem skip_yes (R : RS news r q ts p pt) (wd : Str) (dt : Tok) (ow : One wd) (e : isKW ts p sWord wd = true) :
    Con G 343 [.ref r, .str wd dt] news 10 72 (fun news' v => MV news r q ts (p + 1) news' ∧ v = .bool true) := by
  have hlt := isKW_lt e
  walk_at "V enter"
  walk_at "V steps"
  all_goals (walk_at "V end"; exact ⟨MV.less ⟨_, Rn9, Kn9⟩, rfl⟩)
theorem need_yes (R : RS news r q ts p pt) (wd : Str) (dt : Tok) (ow : One wd) (e : isKW ts p sWord wd = true) :
    Con G 350 [.ref r, .str wd dt] news 12 84 (fun news' v => MV news r q ts (p + 1) news' ∧ v = .none) := by
  walk_at "V enter"
  walk_at "V steps"
  all_goals (walk_at "V end"; exact ⟨⟨_, Rn9, Kn9⟩, rfl⟩)
theorem is_name_c (R : RS news r q ts p pt) (sm : Small ts) :
    Con G 372 [.ref r] news 8 60 (fun news' v => news' = news ∧ v = .bool (isName G.w.params ts p)) := by
  cases e : ts[p]? with
  | some x =>
    obtain ⟨k', w'⟩ := x
    have hwl : w'.length ≤ 64 := sm _ (List.mem_of_getElem? e)
    have e2 : isName G.w.params ts p = (isK ts p sWord && !resv G.w.params w') := by simp only [isName, isK, e]
    rw [e2]
    refine' con_byD [.ref r, .int 0 690] ?ho ?hcd ?hb ?hm ?hl ?g1 ?g2 ?g3 ?hc ?hn ?_
    walk_at "V by"
    intro X tk hret
    walk_at "V steps"
    all_goals (walk_at "V endsame"; simp_all)
  | none =>
    have e2 : isName G.w.params ts p = false := by simp only [isName, e]
    have e3 : isK ts p sWord = false := by simp only [isK, e]
    rw [e2]
    refine' con_byD [.ref r, .int 0 690] ?ho ?hcd ?hb ?hm ?hl ?g1 ?g2 ?g3 ?hc ?hn ?_
    walk_at "V by"
    intro X tk hret
    walk_at "V steps"
    all_goals (walk_at "V endsame"; simp_all)
theorem name_c (R : RS news r q ts p pt) {wo : Str} (sm : Small ts) (e : ts[p]? = some (sWord, wo)) (f : isName G.w.params ts p = true) :
    Con G 379 [.ref r] news 10 72 (fun news' v => MV news r q ts (p + 1) news' ∧ ∃ t, v = .str wo t) := by
  walk_at "V enter"
  walk_at "V steps"
  all_goals (walk_at "V end"; exact ⟨⟨_, Rn9, Kn9⟩, _, rfl⟩)
theorem word_ahead_c (R : RS news r q ts p pt) (wd : Str) (dt : Tok) (k : Int) (kt : Tok) (h0 : 0 ≤ k) (h1 : k < 4096) {i : Nat} (hi : p + k.toNat = i) :
    Con G 244 [.ref r, .int k kt, .str wd dt] news 6 48 (fun news' v => news' = news ∧ v = .bool (isKW ts i sWord wd)) := by
  subst hi
  unfold isKW
  cases e : ts[p + k.toNat]? with
  | some x =>
    obtain ⟨k', w'⟩ := x
    walk_at "V enter"
    walk_at "V steps"
    all_goals (walk_at "V endsame"; simp_all)
  | none =>
    walk_at "V enter"
    walk_at "V steps"
    all_goals (walk_at "V endsame"; simp_all)
end
end Mine
end
noncomputable section
open PySem PySem.W PyProof.Rows PySem.Calls
set_option Elab.async false
set_option maxRecDepth 100000
set_option maxHeartbeats 4000000
namespace Mine
theorem isKW_of {ts : Toks} {i : Nat} {k w k' w' : Str} {b : Bool} (e : ts[i]? = some (k, w)) (h : (k == k' && w == w') = b) : isKW ts i k' w' = b := by simp only [isKW, e, h]
theorem isK_of {ts : Toks} {i : Nat} {k w k' : Str} {b : Bool} (e : ts[i]? = some (k, w)) (h : (k == k') = b) : isK ts i k' = b := by simp only [isK, e, h]
theorem split_OFIN : Txt.split wOFIN ⟨⟨[32]⟩⟩ = [wOF, wIN] := by decide +kernel
theorem kw_R7_1 : True := by
  (k_with "V more" => ((fail_if_success k_extra "past R7"); (((with_reducible show Ob _ (Tk.call (Value.builtin "str.split") _) _ _ _ _); refine ob_split2 split_OFIN (by decide +kernel) ?_; intro D9 k9 k8 tk l9))))
  trivial
section
variable {G : Gl} {news : News'} {r : Addr} {q : RP} {ts : Toks} {p : Nat} {pt : Tok}
theorem one_of_no (R : RS news r q ts p pt) (dt : Tok) (e : isKW ts p sWord wOF = false) (f : isKW ts p sWord wIN = false) :
    Con G 357 [.ref r, .str wOFIN dt] news 12 84 (fun news' v => news' = news ∧ ∃ t, v = .str sEmpty t) := by
  walk_at "V enter"
  walk_at "V steps"
  all_goals (walk_at "V endsame"; exact ⟨_, rfl⟩)
theorem one_of_OF (R : RS news r q ts p pt) (dt : Tok) (e : isKW ts p sWord wOF = true) :
    Con G 357 [.ref r, .str wOFIN dt] news 12 84 (fun news' v => MV news r q ts (p + 1) news' ∧ ∃ t, v = .str wOF t) := by
  walk_at "V enter"
  walk_at "V steps"
  all_goals (walk_at "V end"; exact ⟨MV.less (MV.less ⟨_, Rn9, Kn9⟩), _, rfl⟩)
theorem one_of_IN (R : RS news r q ts p pt) (dt : Tok) (e : isKW ts p sWord wOF = false) (f : isKW ts p sWord wIN = true) :
    Con G 357 [.ref r, .str wOFIN dt] news 12 84 (fun news' v => MV news r q ts (p + 1) news' ∧ ∃ t, v = .str wIN t) := by
  walk_at "V enter"
  walk_at "V steps"
  all_goals (walk_at "V end"; exact ⟨MV.less (MV.less ⟨_, Rn9, Kn9⟩), _, rfl⟩)
theorem ipn_no (R : RS news r q ts p pt) (e : isKW ts p sSign sLpar = false) :
    Con G 139 [.ref r] news 12 84 (fun news' v => news' = news ∧ v = .bool false) := by
  walk_at "V enter"
  walk_at "V steps"
  all_goals (walk_at "V endsame"; rfl)
theorem ipn_part (R : RS news r q ts p pt) {x : Str} (e0 : ts[p]? = some (sSign, sLpar)) (e1 : ts[p + 1]? = some (sNumber, x)) (e2 : ts[p + 2]? = some (sSign, sColon)) :
    Con G 139 [.ref r] news 12 84 (fun news' v => news' = news ∧ v = .bool true) := by
  have k0 : isKW ts p sSign sLpar = true := isKW_of e0 (by decide +kernel)
  have k1 : isKW ts (p + 1) sSign sLpar = false := isKW_of e1 (by rw [show (sNumber == sSign) = false by decide +kernel, Bool.false_and])
  have k2 : isKW ts (p + 1) sSign sRpar = false := isKW_of e1 (by rw [show (sNumber == sSign) = false by decide +kernel, Bool.false_and])
  have k3 : isKW ts (p + 1) sSign sColon = false := isKW_of e1 (by rw [show (sNumber == sSign) = false by decide +kernel, Bool.false_and])
  have k4 : isKW ts (p + 2) sSign sLpar = false := isKW_of e2 (by decide +kernel)
  have k5 : isKW ts (p + 2) sSign sRpar = false := isKW_of e2 (by decide +kernel)
  have k6 : isKW ts (p + 2) sSign sColon = true := isKW_of e2 (by decide +kernel)
  walk_at "V enter"
  walk_at "V steps"
  all_goals (walk_at "V endsame"; rfl)
end
theorem kw_R7_end : True := by
  (k_with "past R7" => skip)
  trivial
end Mine
end
noncomputable section
open PySem PySem.W PyProof.Rows PySem.Calls
set_option Elab.async false
set_option maxRecDepth 100000
set_option maxHeartbeats 4000000
namespace Mine
noncomputable def signAt (ts : Toks) (i : Nat) (ys : List Str) : Str := match ts[i]? with
  | some x => if x.1 == sSign && ys.any (· == x.2) then x.2 else sEmpty
  | none => sEmpty
theorem ob_notInT {G : Gl} {sc : Sc} {X : Xx G sc} {K : List Kf} {ml : Ml} {ns : News'} {tk : Nat} {t : Addr} {its : Array Value} {ys : List Str} {x : Str} {u : Tok} (hm : (t, tupO its) ∈ ns) (hs : StrsAre its.toList ys) (h : go X 300 (.ret (.v (.bool (!ys.any fun y => y == x)))) K ml ns tk) : Ob X (.cmp .NotIn (.str x u) (.ref t)) K ml ns tk :=
  ⟨fun s hR => by
    have z := go_ok _ _ _ _ _ _ h s hR
    obtain ⟨h₁, rfl, F, N⟩ := hR
    exact notin_tuple_strs (News.isTup N hm) hs z⟩
theorem kw_R8_1 : True := by
  (k_with "V more" => ((fail_if_success k_extra "past R8"); (((with_reducible show Ob _ (Tk.cmp CmpOp.NotIn (Value.str _ _) (Value.ref _)) _ _ _ _); refine ob_notInT hm hs ?_))))
  trivial
section
variable {G : Gl} {news : News'} {r : Addr} {q : RP} {ts : Toks} {p : Nat} {pt : Tok}
theorem sa_c (R : RS news r q ts p pt) {tu : Addr} {its : Array Value} {ys : List Str} (hm : (tu, tupO its) ∈ news) (hs : StrsAre its.toList ys) {x : Str} (hx : signAt ts p ys = x) :
    Con G 195 [.ref r, .ref tu] news 8 60 (fun news' v => news' = news ∧ ∃ t, v = .str x t) := by
  subst hx
  cases e : ts[p]? with
  | some x =>
    obtain ⟨k', w'⟩ := x
    have e2 : signAt ts p ys = if k' == sSign && ys.any (· == w') then w' else sEmpty := by simp only [signAt, e]
    rw [e2]
    walk_at "V enter"
    walk_at "V steps"
    all_goals (walk_at "V endsame"; exact ⟨_, congrArg (fun z => Value.str z _) (by simp_all <;> (intro h9; first | exact absurd rfl (‹∀ x : Str, x ∈ ys → ¬x = w'› _ h9)))⟩)
  | none =>
    have e2 : signAt ts p ys = sEmpty := by simp only [signAt, e]
    rw [e2]
    walk_at "V enter"
    walk_at "V steps"
    all_goals (walk_at "V endsame"; exact ⟨_, rfl⟩)
end
theorem kw_R8_end : True := by
  (k_with "past R8" => skip)
  trivial
end Mine
end
noncomputable section
open PySem PySem.W PyProof.Rows PySem.Calls
set_option Elab.async false
set_option maxRecDepth 100000
namespace Mine
/-- the sign at a place of a written text -/
noncomputable def SgnAt (cs : List Nat) (i : Nat) (v : Value) : Prop := ∃ c u, cs[i]? = some c ∧ v = .str ⟨#[c]⟩ u
theorem sgn_walks {prog : Program} {w : World} {A : Around} (hh : A.handled = none) (I : Addr) (cs : List Nat) (t : Tok) :
    Walks prog w A I [I] [I] cs.length (SgnAt cs) (fun i h => h.IsStrIter I "str_ascii_iterator" ⟨⟨cs⟩⟩ t i) :=
  let W := Walks.strAscii (prog := prog) (w := w) hh I ⟨⟨cs⟩⟩ t
  { sub := W.sub, frame := W.frame, done := W.done, self := W.self,
    item := fun i s Q E hi st hQ => W.item i s Q E hi st fun v h' tk hP => hQ v h' tk (by obtain ⟨c, u, e, rfl⟩ := hP; exact ⟨c, u, by simpa using e, rfl⟩) }
theorem sgn_st {h₀ : Heap} {L I : Addr} {x : Str} {t : Tok} : ∀ i (h h' : Heap) (o : Obj) (nw : List (Addr × Obj)), h.IsStrIter I "str_ascii_iterator" x t i → h.get? I = some o → h'.get? I = some o → (∀ b o, h₀.get? b = some o → h'.get? b = some o) → News h₀ L h' nw → True → h'.IsStrIter I "str_ascii_iterator" x t i :=
  fun i h h' o nw st e e' _ _ _ => by obtain ⟨o', q, r⟩ := st; rw [e] at q; cases q; exact ⟨o, e', r⟩
section
variable {prog : Program} {w : World} {A : Around} {E : Value → Shared → Prop} {s : Shared} {h₀ : Heap} {L : Addr} {m : Str → Option Value} {env : Env}
theorem index_is {x y : Str} {t u : Tok} {Q : Value → Shared → Prop} (n : Nat) (k : Int) (hk : (n : Int) = k) (ho : Builtin.Str.occurrences x y 0 x.length 1 = [n]) (hq : Q (.int k s.toks) { s with toks := s.toks + 1 }) : wpAny (model prog w) A (call (.builtin "str.index") [.str x t, .str y u]) Q E s := by
  subst hk; exact SC.index ho hq
theorem sitem_at {value slice : Expr} {x : Str} {t u : Tok} {i : Int} {Q : Value → Shared → Prop} (c : Nat) (hr : (decide (i < -(2 ^ 63 : Int)) || decide (i ≥ 2 ^ 63)) = false) (hc : (seqIndex? i x.length).bind (x.cps[·]?) = some c)
    (h : Q (.str ⟨#[c]⟩ s.toks) { s with toks := s.toks + 1 })
    (hs : subscripted slice false (.str x t) (.int i u) = operate [.str x t, .int i u] (getItem (.str x t) (.int i u)) := by with_unfolding_all rfl) :
    wpAny (model prog w) A (subscriptTail value slice (.str x t) (.int i u)) Q E s :=
  tail_any (typeIs_str s x t) F.slot_str_getitem.lookup (P.getItem_str hr hc h) hs
/-- a written text as a block's source -/
noncomputable def SrcS (prog : Program) (w : World) (A : Around) (h₀ : Heap) (L : Addr) (m : Str → Option Value) (env : Env) (elt : Expr) (x : Str) (scope : Scope) (cl : List (Str × Addr)) (Fin : Shared → List Value → List (Addr × Obj) → Prop) (xv : Value) (s₁ : Shared) : Prop :=
  ∃ cs t news, xv = .str ⟨⟨cs⟩⟩ t ∧ cs.all (· < 128) = true ∧ A.handled = none ∧ Fr h₀ L s₁.heap m ∧ News h₀ L s₁.heap news ∧ cs.length ≤ sizeLine ∧
    ∀ s₂ : Shared, (∃ h, s₂ = { s₁ with heap := h }) → LCg.CompRest prog w A h₀ L m env elt x scope cl s₂ (fun _ => True) (SgnAt cs) (Fin s₂) cs.length 0 [] news
theorem SrcS.of {elt : Expr} {x : Str} {scope : Scope} {cl : List (Str × Addr)} {Fin : Shared → List Value → List (Addr × Obj) → Prop} {cs : List Nat} {t : Tok} {news : List (Addr × Obj)} {s₁ : Shared}
    (ha : cs.all (· < 128) = true) (hh : A.handled = none) (F : Fr h₀ L s₁.heap m) (N : News h₀ L s₁.heap news) (hsz : cs.length ≤ sizeLine)
    (h : ∀ g, LCg.CompRest prog w A h₀ L m env elt x scope cl { s₁ with heap := g } (fun _ => True) (SgnAt cs) (Fin { s₁ with heap := g }) cs.length 0 [] news) :
    SrcS prog w A h₀ L m env elt x scope cl Fin (.str ⟨⟨cs⟩⟩ t) s₁ := ⟨cs, t, news, rfl, ha, hh, F, N, hsz, fun _ ⟨g, e⟩ => e ▸ h g⟩
theorem assign_signs {elt iter : Expr} {x y : Str} {px py : Pos} {scope : Scope} {cl : List (Str × Addr)} {pos spos : Pos} {Q : Flow → Shared → Prop} (F₀ : Fr h₀ L s.heap m) (hLe : env.locals = L)
    (hsw : swapsWith (.ListComp elt [⟨.Name x px, iter, [], 0⟩] scope pos) (some (.Name y py)) spos.line env = pure true)
    (hclos : closureFor scope env = pure cl) (hcell : ∀ z ∈ scope.names, z.2 ≠ .cell) (hkind : scope.kind = .function)
    (hnames : ∀ z ∈ scope.names, z.2 = .local → scope.names.lookup z.1 = some .local) (hx : scope.names.lookup x = some .local)
    (hy : env.kindOf y = some .local) (hp : (env.scope.kind == .class || (env.scope.kind == .module && env.locals != env.globals)) = false)
    (h : wpAny (model prog w) A (eval iter env) (SrcS prog w A h₀ L m env elt x scope cl (fun s₂ => LCg.FinA h₀ L m s₂ y Q)) E s)
    (hs : ∀ x, foldedSetIterable iter env x = pure x := by intro _; rfl) :
    wpAny (model prog w) A (exec (.Assign [.Name y py] (.ListComp elt [⟨.Name x px, iter, [], 0⟩] scope pos) spos) env) Q E s := by
  subst hLe
  rw [exec_Assign_Name_used _ _ _ _ hsw]
  refine wpAny_bind (wpAny_standAt (wpAny_bind ?_))
  show wpAny _ A (do let _ ← comprehension (.ListComp elt [⟨.Name x px, iter, [], 0⟩] scope pos) scope env _ (newList []) false (eval iter env) (some (assign (.Name y py) env))) _ _ s
  refine wpAny_bind (wpAny_mono (wpAny_comprehension_free (use := some (assign (.Name y py) env)) (Q := fun _ s' => Q .next s') rfl hs hclos hkind hnames
    (wpAny_mono h (fun xv s₁ h₁ => ?_) fun _ _ e => e)) (fun _ s' hq => wpAny_pure (wpAny_pure hq)) fun _ _ e => e)
  obtain ⟨cs, t, news, rfl, ha, hh, F, N, hsz, R⟩ := h₁
  refine wpAny_pyIter_ascii (by simpa using ha) ?_
  refine LCg.block_U (sgn_walks hh _ cs t) hsz (fun i h st => by obtain ⟨o, e, _⟩ := st; exact ⟨o, e⟩) sgn_st hcell hkind hx ⟨_, Heap.get?_push_size _ rfl, rfl, rfl⟩ (fun b hb => ?_)
    (F.keeps fun _ _ e => Heap.get?_push_of_some _ e) (N.grown fun _ _ e => Heap.get?_push_of_some _ e) (Nat.ne_of_lt F.ns.lt) (next_is_new F) (fun p hp => Nat.ne_of_lt (Heap.lt_size (N p hp).1)) trivial (R _ ⟨_, rfl⟩) ?_
  · rw [List.mem_singleton.mp hb]
    show s₁.heap.objs.size < (s₁.heap.push _).objs.size
    rw [Heap.size_push]; exact Nat.lt_succ_self _
  · intro D C h' tk m' ys news' F' N' o1 hn hC₀ hD₀ hCL hDL hCD offC fin
    show wpAny _ A (assign (.Name y py) env (.ref D)) _ _ _
    refine wpAny_assign_Name (wpAny_storeName_local hy F'.ns (fun h₂ hn₂ hs₂ => ?_) hp)
    have hL₀ : h₀.get? env.locals = none := Heap.get?_none_of_le F'.above
    have F₂ : Fr h₀ env.locals h₂ (fun z => if z = y then some (.ref D) else m z) := ⟨hn₂, fun b o e => hs₂.extBut b o (fun q => by rw [q, hL₀] at e; cases e) (F'.keep b o e), F'.above⟩
    refine ⟨m', hn.sameBut hs₂ hCL, fun h'' hs'' => fin D h'' _ (F₂.change hs'' hCL hC₀) (fun p hp => ?_) o1⟩
    have z : h₂.get? p.1 = some p.2 := hs₂.extBut _ _ (N' p hp).2.1 (N' p hp).1
    refine ⟨hs''.extBut _ _ ?_ z, (N' p hp).2⟩
    rcases List.mem_cons.mp hp with rfl | hp
    · exact Ne.symm hCD
    · exact offC p hp
theorem CompEnd.all {I C D : Addr} {s₁ : Shared} {oI oC oD : Obj} {S : List (Addr × Obj) → Prop} {rest : Value → List (Addr × Obj) → Prop} {y : Value} {h' : Heap} {tk : Nat} {news' : List (Addr × Obj)}
    (F : Fr h₀ L h' m) (N : News h₀ L h' ((I, oI) :: (C, oC) :: (D, oD) :: news')) (off : LCg.Off3 I C D news') (hS : S news') (r : rest y news') :
    LCg.CompEnd h₀ L m s₁ I oI C oC D oD S rest y { s₁ with heap := h', toks := tk } := ⟨h', tk, news', rfl, F, N, off, hS, r⟩
/-- the turns of a loop over a written text -/
noncomputable def SgnRest (prog : Program) (w : World) (A : Around) (E : Value → Shared → Prop) (h₀ : Heap) (env : Env) (x : Str) (body : List Stmt) (Q : Flow → Shared → Prop) (s : Shared) (I : Addr) : List Nat → (Str → Option Value) → List (Addr × Obj) → Prop
  | [], m, news => ∀ h tk, Fr h₀ env.locals h m → News h₀ env.locals h news → Q .next { s with heap := h, toks := tk }
  | c :: r, m, news => ∀ (u : Tok) (it : Obj) h tk, Fr h₀ env.locals h (fun y => if y = x then some (.str ⟨#[c]⟩ u) else m y) → News h₀ env.locals h ((I, it) :: news) →
      wpAny (model prog w) A (execs body env) (UnrPost h₀ env.locals { s with heap := h, toks := tk } I it (SgnRest prog w A E h₀ env x body Q s I r) Q) E { s with heap := h, toks := tk }
theorem SgnRest.zero {x : Str} {body : List Stmt} {Q : Flow → Shared → Prop} {I : Addr} {m : Str → Option Value} {news : List (Addr × Obj)} (h : ∀ h tk, Fr h₀ env.locals h m → News h₀ env.locals h news → Q .next { s with heap := h, toks := tk }) :
    SgnRest prog w A E h₀ env x body Q s I [] m news := h
theorem SgnRest.succ {x : Str} {body : List Stmt} {Q : Flow → Shared → Prop} {I : Addr} {c : Nat} {r : List Nat} {m : Str → Option Value} {news : List (Addr × Obj)}
    (h : ∀ (u : Tok) (it : Obj) h tk, Fr h₀ env.locals h (fun y => if y = x then some (.str ⟨#[c]⟩ u) else m y) → News h₀ env.locals h ((I, it) :: news) →
      wpAny (model prog w) A (execs body env) (UnrPost h₀ env.locals { s with heap := h, toks := tk } I it (SgnRest prog w A E h₀ env x body Q s I r) Q) E { s with heap := h, toks := tk }) :
    SgnRest prog w A E h₀ env x body Q s I (c :: r) m news := h
theorem iter_signs {x : Str} {body : List Stmt} {Q : Flow → Shared → Prop} {cs : List Nat} {t : Tok} {m₀ : Str → Option Value} {news : List (Addr × Obj)}
    (hh : A.handled = none) (ha : cs.all (· < 128) = true) (F : Fr h₀ env.locals s.heap m₀) (N : News h₀ env.locals s.heap news)
    (rest₀ : ∀ I : Addr, (∀ p ∈ news, p.1 < I) → SgnRest prog w A E h₀ env x body Q s I cs m₀ news) :
    wpAny (model prog w) A (pyIter (.str ⟨⟨cs⟩⟩ t)) (fun it s₂ => LoopAtV prog w A h₀ env x body Q E it s₂) E s := by
  refine wpAny_pyIter_ascii (by simpa using ha) ?_
  have rest := rest₀ s.heap.objs.size fun p hp => Heap.lt_size (N p hp).1
  have hnew := next_is_new F
  let J : Nat → (Str → Option Value) → List (Addr × Obj) → Prop := fun i m₁ news₁ => SgnRest prog w A E h₀ env x body Q s s.heap.objs.size (cs.drop i) m₁ news₁
  refine ⟨_, _, _, cs.length, _, _, m₀, news, J, rfl, sgn_walks hh _ cs t, ?_, ?_, ?_, ⟨_, Heap.get?_push_size _ rfl, rfl, rfl⟩, F.push _, (fun p hp => ⟨Heap.get?_push_of_some _ (N p hp).1, (N p hp).2⟩), (by show SgnRest _ _ _ _ _ _ _ _ _ _ _ (cs.drop 0) _ _; rw [List.drop_zero]; exact rest), ?_, ?_⟩
  · intro hm
    exact absurd F.ns.lt ((List.mem_singleton.mp hm) ▸ Nat.lt_irrefl _)
  · intro b hb
    rw [List.mem_singleton.mp hb]
    exact hnew
  · intro p hp hI
    exact absurd (Heap.lt_size (N p hp).1) ((List.mem_singleton.mp hI) ▸ Nat.lt_irrefl _)
  · rintro i v m₁ news₁ s₁ own ⟨hh', tk', rfl⟩ hin ⟨c, u, hc, rfl⟩ hJ hoff hown hget hall hst F₁ N₁
    obtain ⟨it, hit, _⟩ := hst
    have hmem := hall s.heap.objs.size (List.mem_singleton.mpr rfl) hnew _ hit
    have hdrop : cs.drop i = c :: cs.drop (i + 1) := by
      rw [List.drop_eq_getElem_cons hin]
      congr 1
      exact Option.some.inj ((List.getElem?_eq_getElem hin).symm.trans hc)
    have hJ' : SgnRest prog w A E h₀ env x body Q s s.heap.objs.size (c :: cs.drop (i + 1)) m₁ news₁ := by rw [← hdrop]; exact hJ
    have N₂ : News h₀ env.locals hh' ((s.heap.objs.size, it) :: news₁) := fun p hp => by
      rcases List.mem_cons.mp hp with rfl | hp
      · exact N₁ _ (List.mem_append_left _ hmem)
      · exact N₁ _ (List.mem_append_right _ hp)
    refine wpAny_mono (hJ' u it hh' tk' F₁ N₂) (fun f s₂ p => ?_) fun _ _ e => e
    have fin : UnrEnd h₀ env.locals { s with heap := hh', toks := tk' } s.heap.objs.size it (SgnRest prog w A E h₀ env x body Q s s.heap.objs.size (cs.drop (i + 1))) s₂ →
        LoopStepU h₀ env.locals [s.heap.objs.size] own (J (i + 1)) { s with heap := hh', toks := tk' } .next s₂ := by
      rintro ⟨h', tk, m', news', e, F', N', ho, r⟩
      refine ⟨rfl, h', tk, m', news', e, F', fun p hp => ?_, fun p hp hI => ho p hp (List.mem_singleton.mp hI), r⟩
      rcases List.mem_append.mp hp with hp | hp
      · have h1 : p.1 = s.heap.objs.size := List.mem_singleton.mp (hown p hp)
        have h2 : hh'.get? p.1 = some p.2 := hget p hp
        have h3 : p = (s.heap.objs.size, it) := by
          rw [h1, hit] at h2
          exact Prod.ext h1 (Option.some.inj h2).symm
        rw [h3]; exact N' _ (List.mem_cons_self ..)
      · exact N' _ (List.mem_cons_of_mem _ hp)
    cases f with
    | ret v => exact .ret p
    | brk => exact .brk p
    | next => exact .next (fin p)
    | cont => exact .cont (fin p)
  · rintro h' tk m' news' F' N' _ hJ
    have z : cs.drop cs.length = [] := List.drop_length
    have hJ' : SgnRest prog w A E h₀ env x body Q s s.heap.objs.size [] m' news' := by rw [← z]; exact hJ
    exact hJ' h' tk F' N'
end
end Mine
end
noncomputable section
open PySem PySem.W PyProof.Rows PySem.Calls
set_option Elab.async false
set_option maxRecDepth 100000
set_option maxHeartbeats 4000000
namespace Mine
theorem UnrEnd.all {h₀ : Heap} {L I : Addr} {it : Obj} {rest : (Str → Option Value) → News' → Prop} {s₁ : Shared} {h' : Heap} {tk : Nat} {m' : Str → Option Value} {news' : News'} (F : Fr h₀ L h' m') (N : News h₀ L h' ((I, it) :: news'))
    (off : ∀ p ∈ news', p.1 < I) (r : rest m' news') : UnrEnd h₀ L s₁ I it rest { s₁ with heap := h', toks := tk } := ⟨h', tk, m', news', rfl, F, N, fun p hp => Nat.ne_of_lt (off p hp), r⟩
theorem News.less {h₀ h : Heap} {L : Addr} {a b : News'} (N : News h₀ L h a) (k : ∀ x ∈ b, x ∈ a) : News h₀ L h b := fun x hx => N x (k x hx)
section
variable {G : Gl} {news : News'} {r : Addr} {q : RP} {ts : Toks} {p : Nat} {pt : Tok}
theorem wo_5 (x : Str) (t : Tok) (hx : x = ⟨⟨[53]⟩⟩) :
    Con G 124 [.str x t] news 4 40 (fun news' v => news' = news ∧ ∃ t, v = .int 5 t) := by
  subst hx
  walk_at "MINE enter"
  rw [sw_index]
  k_steps
  all_goals (walk_at "MINE endsame"; exact ⟨_, rfl⟩)
theorem wo_50 (x : Str) (t : Tok) (hx : x = ⟨⟨[53, 48]⟩⟩) :
    Con G 124 [.str x t] news 4 40 (fun news' v => news' = news ∧ ∃ t, v = .int 50 t) := by
  subst hx
  walk_at "MINE enter"
  rw [sw_index]
  k_steps
  all_goals (walk_at "MINE endsame"; exact ⟨_, rfl⟩)
noncomputable abbrev pairO (a b : Int) (t u : Tok) : Obj := tupO #[.int a t, .int b u]
noncomputable def NewPair (news : News') (a b : Int) (news' : News') (v : Value) : Prop := ∃ D t u, news' = (D, pairO a b t u) :: news ∧ v = .ref D ∧ ∀ x ∈ news, x.1 < D
theorem con_newp {G : Gl} {f : Addr} {vs : List Value} {news : News'} {D U D0 U0 : Nat}
    {A : Around} {h₀ : Heap} {L : Addr} {m : Str → Option Value} {s : Shared} {Q E : Value → Shared → Prop} {x y : Int}
    (C : Con G f vs news D U (fun n v => NewPair news x y n v)) (B : Site A L h₀ D0 U0) (F : Fr h₀ L s.heap m) (X : (KN G.w.params).In h₀) (N : News h₀ L s.heap news) (T : Top topProg G.loose G.mean G.mg G.mb h₀) (hd : Nat.ble (D + 1) D0 = true) (hu : Nat.ble (U + 3) U0 = true)
    (ret : ∀ D t u h' tk', Fr h₀ L h' m → News h₀ L h' ((D, pairO x y t u) :: news) → (∀ z ∈ news, z.1 < D) → Q (.ref D) { s with heap := h', toks := tk' }) : wpAny (model PySem.Challenge.rw_qd0103_01.prog G.w) A (call (.ref f) vs) Q E s :=
  con_site C B F X N T hd hu fun _ _ h tk F' N' p => by obtain ⟨D, t, u, rfl, rfl, l⟩ := p; exact ret D t u _ _ F' N' l
theorem dec_50 (t u : Tok) :
    Con G 89 [.int 5 t, .int 0 u] news 4 40 (fun news' v => NewPair news 5 0 news' v) := by
  walk_at "MINE enter"
  k_steps
  all_goals (refine hret _ _ _ _ (by k_asm) (by k_asm) ⟨_, _, _, rfl, rfl, ?_⟩; walk_at "MINE above")
theorem dec_501 (t u : Tok) :
    Con G 89 [.int 50 t, .int 1 u] news 4 40 (fun news' v => NewPair news 5 0 news' v) := by
  walk_at "MINE enter"
  k_steps
  all_goals (refine hret _ _ _ _ (by k_asm) (by k_asm) ⟨_, _, _, rfl, rfl, ?_⟩; walk_at "MINE above")
theorem rd_5 (x : Str) (t : Tok) (hx : x = ⟨⟨[53]⟩⟩) :
    Con G 131 [.str x t] news 6 52 (fun news' v => NewPair news 5 0 news' v) := by
  subst hx
  walk_at "MINE enter"
  rw [sw_range, sw_len]
  k_steps
  all_goals (refine hret _ _ _ _ (by k_asm) (News.less (by k_asm) (by walk_at "MINE sub")) ⟨_, _, _, rfl, rfl, ?_⟩; walk_at "MINE above")
theorem rd_50 (x : Str) (t : Tok) (hx : x = ⟨⟨[53, 46, 48]⟩⟩) :
    Con G 131 [.str x t] news 6 52 (fun news' v => NewPair news 5 0 news' v) := by
  subst hx
  walk_at "MINE enter"
  rw [sw_range, sw_len, sw_index]
  k_steps
  all_goals (refine hret _ _ _ _ (by k_asm) (News.less (by k_asm) (by walk_at "MINE sub")) ⟨_, _, _, rfl, rfl, ?_⟩; walk_at "MINE above")
theorem neg_c {D : Addr} {a b : Int} {t u : Tok} (hm : (D, pairO a b t u) ∈ news) :
    Con G 96 [.ref D] news 4 40 (fun news' v => NewPair news (-a) b news' v) := by
  walk_at "MINE enter"
  k_steps
  all_goals (refine hret _ _ _ _ (by k_asm) (News.less (by k_asm) (by walk_at "MINE sub")) ⟨_, _, _, rfl, rfl, ?_⟩; walk_at "MINE above")
end
end Mine
end
noncomputable section
open PySem PySem.W PyProof.Rows PySem.Calls
set_option Elab.async false
set_option maxRecDepth 100000
set_option maxHeartbeats 4000000
namespace Mine
theorem kw_R10_1 : True := by
  (k_with "exec Assign cons ListComp" => ((fail_if_success k_extra "past R10"); ((k_here; k_dflt (refine assign_signs (F₀ := by k_asm) (by rfl) (by with_unfolding_all rfl) (by rfl) (by decide) (by rfl) (by decide) (by rfl) (by rfl) (by rfl) ?_)))))
  trivial
noncomputable abbrev bMinus : Array UInt8 := #[45]
noncomputable abbrev bAb : Array UInt8 := #[97, 98]
noncomputable abbrev sAb : Str := ⟨⟨[97, 98]⟩⟩
section
variable {G : Gl} {news : News'} {r : Addr} {q : RP} {ts : Toks} {p : Nat} {pt : Tok}
theorem oot_m (x : Str) (t : Tok) (hx : x = sMinus) :
    Con G 277 [.str x t] news 6 40 (fun news' v => news' = news ∧ ∃ t, v = .bytes bMinus t) := by
  subst hx
  walk_at "MINE enter"
  (try rw [sw_ord]); (try rw [sw_bytes])
  k_steps
  all_goals (walk_at "MINE endsame"; exact ⟨_, rfl⟩)
theorem oot_ab (x : Str) (t : Tok) (hx : x = sAb) :
    Con G 277 [.str x t] news 6 40 (fun news' v => news' = news ∧ ∃ t, v = .bytes bAb t) := by
  subst hx
  walk_at "MINE enter"
  (try rw [sw_ord]); (try rw [sw_bytes])
  k_steps
  all_goals (walk_at "MINE endsame"; exact ⟨_, rfl⟩)
end
theorem kw_R10_end : True := by
  (k_with "past R10" => skip)
  trivial
end Mine
end
noncomputable section
open PySem PySem.W PyProof.Rows PySem.Calls
set_option Elab.async false
set_option maxRecDepth 100000
set_option maxHeartbeats 4000000
namespace Mine
theorem kw_RA_1 : True := by
  (k_with "V above" => ((fail_if_success k_extra "past RA"); (first | assumption | (intro x9 h9; exact (‹∀ p : Addr × Obj, p ∈ (_ : List (Addr × Obj)) → p.1 < _› x9 (by walk_at "V memtail"))))))
  (k_with "V memtail" => ((fail_if_success k_extra "past RA"); (first | exact h9 | (refine List.mem_cons_of_mem _ ?_; walk_at "V memtail"))))
  (k_with "V mvend" => ((fail_if_success k_extra "past RA"); (first | exact ⟨_, Rn9, Kn9⟩ | (refine MV.trans ?_ ⟨_, Rn9, Kn9⟩; assumption) | (refine MV.trans (Keeps.trans ?_ ?_) ⟨_, Rn9, Kn9⟩ <;> assumption) | (refine MV.trans (Keeps.trans ?_ (Keeps.trans ?_ ?_)) ⟨_, Rn9, Kn9⟩ <;> assumption) | (refine MV.cons (by walk_at "V above") ?_; walk_at "V mvend"))))
  (k_with "V more" => ((fail_if_success k_extra "past RA"); (first
  | ((with_reducible show Ob _ (Tk.bin Operator.Add (Value.str _ _) (Value.str _ _)) _ _ _ _); (first | (refine' ob_addS (k := 1 + 64) (l := 1) ?a9 ?b9 (by decide) ?_; (case a9 => assumption); (case b9 => decide)) | (refine' ob_addS (k := 1) (l := 64) ?a9 ?b9 (by decide) ?_; (case a9 => decide); (case b9 => assumption))); intro t9 tk e9)
  | ((with_reducible show Ob _ (Tk.cmp CmpOp.In (Value.str _ _) (Value.str _ _)) _ _ _ _); refine ob_inS ?_))))
  trivial
noncomputable def HasPair (news : News') (a b : Int) (v : Value) : Prop := ∃ D t u, v = .ref D ∧ (D, pairO a b t u) ∈ news
section
variable {G : Gl} {sc : Sc} {X : Xx G sc} {K : List Kf} {ml : Ml} {ns : News'} {tk : Nat}
theorem ob_newp {f : Addr} {vs : List Value} {D U : Nat} {x y : Int} (C : Con G f vs ns D U (fun n v => NewPair ns x y n v)) (hd : Nat.ble (D + 1) sc.D = true) (hu : Nat.ble (U + 3) sc.U = true)
    (ret : ∀ D t u tk', (∀ z ∈ ns, z.1 < D) → go X 300 (.ret (.v (.ref D))) K ml ((D, pairO x y t u) :: ns) tk') : Ob X (.call (.ref f) vs) K ml ns tk :=
  ob_call C hd hu fun v n' tk' p => by obtain ⟨D, t, u, rfl, rfl, l⟩ := p; exact ret D t u tk' l
theorem ob_mvp {f : Addr} {vs : List Value} {D U : Nat} {x y : Int} {r : Addr} {q : RP} {ts : Toks} {p₀ : Nat} (C : Con G f vs ns D U (fun n v => MV ns r q ts p₀ n ∧ HasPair n x y v)) (hd : Nat.ble (D + 1) sc.D = true) (hu : Nat.ble (U + 3) sc.U = true)
    (ret : ∀ pt D t u n' tk', RS n' r q ts p₀ pt → Keeps ns n' q.dr → (D, pairO x y t u) ∈ n' → go X 300 (.ret (.v (.ref D))) K ml n' tk') : Ob X (.call (.ref f) vs) K ml ns tk :=
  ob_call C hd hu fun v n' tk' p => by obtain ⟨⟨pt, R, k⟩, D, t, u, rfl, z⟩ := p; exact ret pt D t u n' tk' R k z
theorem ob_ret {f : Addr} {vs : List Value} {D U : Nat} {ds : List Dat} {r : Addr} {q : RP} {ts : Toks} {p₀ : Nat} (C : Con G f vs ns D U (fun n v => MV ns r q ts p₀ n ∧ DatIn n v (.tuple ds))) (hd : Nat.ble (D + 1) sc.D = true) (hu : Nat.ble (U + 3) sc.U = true)
    (ret : ∀ pt D n' tk', RS n' r q ts p₀ pt → Keeps ns n' q.dr → DatIn n' (.ref D) (.tuple ds) → go X 300 (.ret (.v (.ref D))) K ml n' tk') : Ob X (.call (.ref f) vs) K ml ns tk :=
  ob_call C hd hu fun v n' tk' p => by
    obtain ⟨⟨pt, R, k⟩, z⟩ := p
    cases z with
    | tuple m h => exact ret pt _ n' tk' R k (.tuple m h)
end
noncomputable abbrev s5 : Str := ⟨⟨[53]⟩⟩
noncomputable abbrev s50 : Str := ⟨⟨[53, 46, 48]⟩⟩
theorem keeps_cons {news news' : News'} {x : Addr × Obj} {d : Addr} (h : Keeps news news' d) : Keeps news (x :: news') d := fun y hy n n' => List.mem_cons_of_mem _ (h y hy n n')
theorem MV.cons {news news' : News'} {a : Addr} {o : Obj} {r : Addr} {q : RP} {ts : Toks} {p : Nat} (l : ∀ x ∈ news', x.1 < a) (h : MV news r q ts p news') : MV news r q ts p ((a, o) :: news') := by
  obtain ⟨pt, h1, h2⟩ := h
  exact ⟨pt, RS.cons l h1, keeps_cons h2⟩
theorem MV.trans {a b c : News'} {r : Addr} {q : RP} {ts : Toks} {p' : Nat} (h : Keeps a b q.dr) (h' : MV b r q ts p' c) : MV a r q ts p' c := by
  obtain ⟨pt, h1, h2⟩ := h'
  exact ⟨pt, h1, Keeps.trans h h2⟩
theorem isNum_plain {ts : Toks} {p : Nat} {x : Str} (e : ts[p]? = some (sNumber, x)) : isNum ts p = true ∧ isKW ts p sSign sMinus = false ∧ isKW ts p sSign sPlus = false := by
  have k1 : isKW ts p sSign sMinus = false := isKW_of e (by rw [show (sNumber == sSign) = false by decide +kernel, Bool.false_and])
  have k2 : isKW ts p sSign sPlus = false := isKW_of e (by rw [show (sNumber == sSign) = false by decide +kernel, Bool.false_and])
  refine ⟨?_, k1, k2⟩
  unfold isNum
  rw [k1, k2]
  exact isK_of e (by decide +kernel)
section
variable {G : Gl} {news : News'} {r : Addr} {q : RP} {ts : Toks} {p : Nat} {pt : Tok}
theorem octets_m (R : RS news r q ts p pt) (e : ts[p]? = some (sLiteral, sMinus)) :
    Con G 443 [.ref r] news 10 72 (fun news' v => MV news r q ts (p + 1) news' ∧ ∃ t, v = .bytes bMinus t) := by
  have k0 : isK ts p sLiteral = true := isK_of e (by decide +kernel)
  have hlt := (List.getElem?_eq_some_iff.mp e).1
  walk_at "V enter"
  walk_at "V steps"
  all_goals (walk_at "V end"; exact ⟨⟨_, Rn9, Kn9⟩, _, rfl⟩)
theorem octets_ab (R : RS news r q ts p pt) (e : ts[p]? = some (sLiteral, sAb)) :
    Con G 443 [.ref r] news 10 72 (fun news' v => MV news r q ts (p + 1) news' ∧ ∃ t, v = .bytes bAb t) := by
  have k0 : isK ts p sLiteral = true := isK_of e (by decide +kernel)
  have hlt := (List.getElem?_eq_some_iff.mp e).1
  walk_at "V enter"
  walk_at "V steps"
  all_goals (walk_at "V end"; exact ⟨⟨_, Rn9, Kn9⟩, _, rfl⟩)
end
section
variable {G : Gl} {news : News'} {r : Addr} {q : RP} {ts : Toks} {p : Nat} {pt : Tok}
theorem signed_5 (R : RS news r q ts p pt) (e : ts[p]? = some (sNumber, s5)) :
    Con G 422 [.ref r] news 12 84 (fun news' v => MV news r q ts (p + 1) news' ∧ HasPair news' 5 0 v) := by
  obtain ⟨k1, k2, k3⟩ := isNum_plain e
  walk_at "V enter"
  walk_at "V steps"
  all_goals (refine hret _ _ ⟨?_, ?_⟩; (walk_at "V mvend"); exact ⟨_, _, _, rfl, .head _⟩)
theorem signed_m5 (R : RS news r q ts p pt) (e : ts[p]? = some (sSign, sMinus)) (f : ts[p + 1]? = some (sNumber, s5)) :
    Con G 422 [.ref r] news 12 84 (fun news' v => MV news r q ts (p + 2) news' ∧ HasPair news' (-5) 0 v) := by
  have k1 : isKW ts p sSign sMinus = true := isKW_of e (by decide +kernel)
  have k2 : isNum ts p = true := by
    unfold isNum; rw [k1, Bool.or_true, if_pos rfl]; exact isK_of f (by decide +kernel)
  walk_at "V enter"
  walk_at "V steps"
  all_goals (refine hret _ _ ⟨?_, ?_⟩; (walk_at "V mvend"); exact ⟨_, _, _, rfl, .head _⟩)
theorem signed_p50 (R : RS news r q ts p pt) (e : ts[p]? = some (sSign, sPlus)) (f : ts[p + 1]? = some (sNumber, s50)) :
    Con G 422 [.ref r] news 12 84 (fun news' v => MV news r q ts (p + 2) news' ∧ HasPair news' 5 0 v) := by
  have k1 : isKW ts p sSign sPlus = true := isKW_of e (by decide +kernel)
  have k3 : isKW ts p sSign sMinus = false := isKW_of e (by decide +kernel)
  have k2 : isNum ts p = true := by
    unfold isNum; rw [k1, Bool.true_or, if_pos rfl]; exact isK_of f (by decide +kernel)
  walk_at "V enter"
  walk_at "V steps"
  all_goals (refine hret _ _ ⟨?_, ?_⟩; (walk_at "V mvend"); exact ⟨_, _, _, rfl, .head _⟩)
end
theorem datRef {news : News'} {v : Value} {ds : List Dat} (h : DatIn news v (.tuple ds)) : ∃ a, v = .ref a := by
  cases h
  exact ⟨_, rfl⟩
noncomputable abbrev wK : Str := ⟨⟨[75]⟩⟩
noncomputable abbrev wR : Str := ⟨⟨[82]⟩⟩
noncomputable abbrev wF : Str := ⟨⟨[70]⟩⟩
noncomputable abbrev wZEROS : Str := ⟨⟨[90, 69, 82, 79, 83]⟩⟩
noncomputable abbrev wQUOTES : Str := ⟨⟨[81, 85, 79, 84, 69, 83]⟩⟩
noncomputable abbrev wSPACE : Str := ⟨⟨[83, 80, 65, 67, 69]⟩⟩
noncomputable abbrev wHIGHVALUE : Str := ⟨⟨[72, 73, 71, 72, 45, 86, 65, 76, 85, 69]⟩⟩
noncomputable abbrev wLOWVALUES : Str := ⟨⟨[76, 79, 87, 45, 86, 65, 76, 85, 69, 83]⟩⟩
noncomputable abbrev wZERO : Str := ⟨⟨[90, 69, 82, 79]⟩⟩
/-- a figurative constant's tree -/
noncomputable abbrev figD (x : Str) : Dat := .tuple [.str (Str.ofString "figure"), .str x]
section
variable {G : Gl} {news : News'} {r : Addr} {q : RP} {ts : Toks} {p : Nat} {pt : Tok}
theorem fig_K (R : RS news r q ts p pt) (e : ts[p]? = some (sWord, wK)) :
    Con G 174 [.ref r] news 10 72 (fun news' v => news' = news ∧ v = .none) := by
  have k1 : isK ts p sWord = true := isK_of e (by decide +kernel)
  walk_at "V enter"
  walk_at "V steps"
  all_goals (walk_at "V endsame"; rfl)
theorem fig_ZEROS (R : RS news r q ts p pt) (e : ts[p]? = some (sWord, wZEROS)) :
    Con G 174 [.ref r] news 10 72 (fun news' v => MV news r q ts (p + 1) news' ∧ DatIn news' v (figD (Str.ofString "ZERO"))) := by
  have k1 : isK ts p sWord = true := isK_of e (by decide +kernel)
  walk_at "V enter"
  walk_at "V steps"
  all_goals (refine hret _ _ ⟨?_, ?_⟩; (walk_at "V mvend"); exact .tuple (.head _) (.cons (.str _ _) (.cons (.str _ _) .nil)))
theorem fig_QUOTES (R : RS news r q ts p pt) (e : ts[p]? = some (sWord, wQUOTES)) :
    Con G 174 [.ref r] news 10 72 (fun news' v => MV news r q ts (p + 1) news' ∧ DatIn news' v (figD (Str.ofString "QUOTE"))) := by
  have k1 : isK ts p sWord = true := isK_of e (by decide +kernel)
  walk_at "V enter"
  walk_at "V steps"
  all_goals (refine hret _ _ ⟨?_, ?_⟩; (walk_at "V mvend"); exact .tuple (.head _) (.cons (.str _ _) (.cons (.str _ _) .nil)))
theorem fig_SPACE (R : RS news r q ts p pt) (e : ts[p]? = some (sWord, wSPACE)) :
    Con G 174 [.ref r] news 10 72 (fun news' v => MV news r q ts (p + 1) news' ∧ DatIn news' v (figD (Str.ofString "SPACE"))) := by
  have k1 : isK ts p sWord = true := isK_of e (by decide +kernel)
  walk_at "V enter"
  walk_at "V steps"
  all_goals (refine hret _ _ ⟨?_, ?_⟩; (walk_at "V mvend"); exact .tuple (.head _) (.cons (.str _ _) (.cons (.str _ _) .nil)))
theorem fig_HIGHVALUE (R : RS news r q ts p pt) (e : ts[p]? = some (sWord, wHIGHVALUE)) :
    Con G 174 [.ref r] news 10 72 (fun news' v => MV news r q ts (p + 1) news' ∧ DatIn news' v (figD (Str.ofString "HIGH"))) := by
  have k1 : isK ts p sWord = true := isK_of e (by decide +kernel)
  walk_at "V enter"
  walk_at "V steps"
  all_goals (refine hret _ _ ⟨?_, ?_⟩; (walk_at "V mvend"); exact .tuple (.head _) (.cons (.str _ _) (.cons (.str _ _) .nil)))
theorem fig_LOWVALUES (R : RS news r q ts p pt) (e : ts[p]? = some (sWord, wLOWVALUES)) :
    Con G 174 [.ref r] news 10 72 (fun news' v => MV news r q ts (p + 1) news' ∧ DatIn news' v (figD (Str.ofString "LOW"))) := by
  have k1 : isK ts p sWord = true := isK_of e (by decide +kernel)
  walk_at "V enter"
  walk_at "V steps"
  all_goals (refine hret _ _ ⟨?_, ?_⟩; (walk_at "V mvend"); exact .tuple (.head _) (.cons (.str _ _) (.cons (.str _ _) .nil)))
theorem fig_ZERO (R : RS news r q ts p pt) (e : ts[p]? = some (sWord, wZERO)) :
    Con G 174 [.ref r] news 10 72 (fun news' v => MV news r q ts (p + 1) news' ∧ DatIn news' v (figD (Str.ofString "ZERO"))) := by
  have k1 : isK ts p sWord = true := isK_of e (by decide +kernel)
  walk_at "V enter"
  walk_at "V steps"
  all_goals (refine hret _ _ ⟨?_, ?_⟩; (walk_at "V mvend"); exact .tuple (.head _) (.cons (.str _ _) (.cons (.str _ _) .nil)))
end
noncomputable abbrev numD (n : Int) : Dat := .tuple [.str (Str.ofString "number"), .tuple [.int n, .int 0]]
theorem HasPair.dat {news : News'} {a b : Int} {v : Value} (h : HasPair news a b v) : DatIn news v (.tuple [.int a, .int b]) := by
  obtain ⟨D, t, u, rfl, m⟩ := h
  exact .tuple m (.cons (.int _ _) (.cons (.int _ _) .nil))
theorem isNum_not {ts : Toks} {p : Nat} {k x : Str} (e : ts[p]? = some (k, x)) (h1 : (k == sSign) = false) (h2 : (k == sNumber) = false) : isNum ts p = false := by
  unfold isNum
  rw [isKW_of (k' := sSign) (w' := sPlus) (b := false) e (by rw [h1, Bool.false_and]), isKW_of (k' := sSign) (w' := sMinus) (b := false) e (by rw [h1, Bool.false_and])]
  exact isK_of e h2
section
variable {G : Gl} {news : News'} {r : Addr} {q : RP} {ts : Toks} {p : Nat} {pt : Tok}
theorem all_ab (R : RS news r q ts p pt) (e : ts[p]? = some (sLiteral, sAb)) :
    Con G 167 [.ref r] news 12 84 (fun news' v => MV news r q ts (p + 1) news' ∧ DatIn news' v (.tuple [.str (Str.ofString "all"), .bytes bAb])) := by
  have k1 : isK ts p sLiteral = true := isK_of e (by decide +kernel)
  walk_at "V enter"
  walk_at "V steps"
  all_goals (refine hret _ _ ⟨?_, ?_⟩; (walk_at "V mvend"); exact .tuple (.head _) (.cons (.str _ _) (.cons (.bytes _ _) .nil)))
theorem all_ZEROS (R : RS news r q ts p pt) (e : ts[p]? = some (sWord, wZEROS)) :
    Con G 167 [.ref r] news 12 84 (fun news' v => MV news r q ts (p + 1) news' ∧ DatIn news' v (figD (Str.ofString "ZERO"))) := by
  have k1 : isK ts p sLiteral = false := isK_of e (by decide +kernel)
  walk_at "V enter"
  walk_at "V steps"
  all_goals (refine hret _ _ ⟨?_, ?_⟩; (walk_at "V mvend"); exact z9)
theorem ro_5 (R : RS news r q ts p pt) (f : Addr) (e : ts[p]? = some (sNumber, s5)) :
    Con G 181 [.ref r, .ref f] news 14 96 (fun news' v => MV news r q ts (p + 1) news' ∧ DatIn news' v (numD 5)) := by
  obtain ⟨k1, _, _⟩ := isNum_plain e
  walk_at "V enter"
  walk_at "V steps"
  all_goals (refine hret _ _ ⟨?_, ?_⟩; (walk_at "V mvend"); exact .tuple (.head _) (.cons (.str _ _) (.cons (.tuple (.tail _ z9) (.cons (.int _ _) (.cons (.int _ _) .nil))) .nil)))
theorem ro_m5 (R : RS news r q ts p pt) (f : Addr) (e : ts[p]? = some (sSign, sMinus)) (e1 : ts[p + 1]? = some (sNumber, s5)) :
    Con G 181 [.ref r, .ref f] news 14 96 (fun news' v => MV news r q ts (p + 2) news' ∧ DatIn news' v (numD (-5))) := by
  have k1 : isNum ts p = true := by
    unfold isNum; rw [isKW_of (k' := sSign) (w' := sMinus) (b := true) e (by decide +kernel), Bool.or_true, if_pos rfl]; exact isK_of e1 (by decide +kernel)
  walk_at "V enter"
  walk_at "V steps"
  all_goals (refine hret _ _ ⟨?_, ?_⟩; (walk_at "V mvend"); exact .tuple (.head _) (.cons (.str _ _) (.cons (.tuple (.tail _ z9) (.cons (.int _ _) (.cons (.int _ _) .nil))) .nil)))
theorem ro_p50 (R : RS news r q ts p pt) (f : Addr) (e : ts[p]? = some (sSign, sPlus)) (e1 : ts[p + 1]? = some (sNumber, s50)) :
    Con G 181 [.ref r, .ref f] news 14 96 (fun news' v => MV news r q ts (p + 2) news' ∧ DatIn news' v (numD 5)) := by
  have k1 : isNum ts p = true := by
    unfold isNum; rw [isKW_of (k' := sSign) (w' := sPlus) (b := true) e (by decide +kernel), Bool.true_or, if_pos rfl]; exact isK_of e1 (by decide +kernel)
  walk_at "V enter"
  walk_at "V steps"
  all_goals (refine hret _ _ ⟨?_, ?_⟩; (walk_at "V mvend"); exact .tuple (.head _) (.cons (.str _ _) (.cons (.tuple (.tail _ z9) (.cons (.int _ _) (.cons (.int _ _) .nil))) .nil)))
theorem ro_lit (R : RS news r q ts p pt) (f : Addr) (e : ts[p]? = some (sLiteral, sMinus)) :
    Con G 181 [.ref r, .ref f] news 14 96 (fun news' v => MV news r q ts (p + 1) news' ∧ DatIn news' v (.tuple [.str (Str.ofString "text"), .bytes bMinus])) := by
  have k1 : isNum ts p = false := isNum_not e (by decide +kernel) (by decide +kernel)
  have k2 : isK ts p sLiteral = true := isK_of e (by decide +kernel)
  walk_at "V enter"
  walk_at "V steps"
  all_goals (refine hret _ _ ⟨?_, ?_⟩; (walk_at "V mvend"); exact .tuple (.head _) (.cons (.str _ _) (.cons (.bytes _ _) .nil)))
theorem ro_allab (R : RS news r q ts p pt) (f : Addr) (e : ts[p]? = some (sWord, wALL)) (e1 : ts[p + 1]? = some (sLiteral, sAb)) :
    Con G 181 [.ref r, .ref f] news 16 108 (fun news' v => MV news r q ts (p + 2) news' ∧ DatIn news' v (.tuple [.str (Str.ofString "all"), .bytes bAb])) := by
  have k1 : isNum ts p = false := isNum_not e (by decide +kernel) (by decide +kernel)
  have k2 : isK ts p sLiteral = false := isK_of e (by decide +kernel)
  have k3 : isKW ts p sWord wALL = true := isKW_of e (by decide +kernel)
  walk_at "V enter"
  walk_at "V steps"
  all_goals (refine hret _ _ ⟨?_, ?_⟩; (walk_at "V mvend"); exact z9)
theorem ro_allZEROS (R : RS news r q ts p pt) (f : Addr) (e : ts[p]? = some (sWord, wALL)) (e1 : ts[p + 1]? = some (sWord, wZEROS)) :
    Con G 181 [.ref r, .ref f] news 16 108 (fun news' v => MV news r q ts (p + 2) news' ∧ DatIn news' v (figD (Str.ofString "ZERO"))) := by
  have k1 : isNum ts p = false := isNum_not e (by decide +kernel) (by decide +kernel)
  have k2 : isK ts p sLiteral = false := isK_of e (by decide +kernel)
  have k3 : isKW ts p sWord wALL = true := isKW_of e (by decide +kernel)
  walk_at "V enter"
  walk_at "V steps"
  all_goals (refine hret _ _ ⟨?_, ?_⟩; (walk_at "V mvend"); exact z9)
theorem ro_QUOTES (R : RS news r q ts p pt) (f : Addr) (e : ts[p]? = some (sWord, wQUOTES)) :
    Con G 181 [.ref r, .ref f] news 14 96 (fun news' v => MV news r q ts (p + 1) news' ∧ DatIn news' v (figD (Str.ofString "QUOTE"))) := by
  have k1 : isNum ts p = false := isNum_not e (by decide +kernel) (by decide +kernel)
  have k2 : isK ts p sLiteral = false := isK_of e (by decide +kernel)
  have k3 : isKW ts p sWord wALL = false := isKW_of e (by decide +kernel)
  walk_at "V enter"
  walk_at "V steps"
  all_goals (refine hret _ _ ⟨?_, ?_⟩; (walk_at "V mvend"); exact z9)
theorem ro_SPACE (R : RS news r q ts p pt) (f : Addr) (e : ts[p]? = some (sWord, wSPACE)) :
    Con G 181 [.ref r, .ref f] news 14 96 (fun news' v => MV news r q ts (p + 1) news' ∧ DatIn news' v (figD (Str.ofString "SPACE"))) := by
  have k1 : isNum ts p = false := isNum_not e (by decide +kernel) (by decide +kernel)
  have k2 : isK ts p sLiteral = false := isK_of e (by decide +kernel)
  have k3 : isKW ts p sWord wALL = false := isKW_of e (by decide +kernel)
  walk_at "V enter"
  walk_at "V steps"
  all_goals (refine hret _ _ ⟨?_, ?_⟩; (walk_at "V mvend"); exact z9)
theorem ro_HIGHVALUE (R : RS news r q ts p pt) (f : Addr) (e : ts[p]? = some (sWord, wHIGHVALUE)) :
    Con G 181 [.ref r, .ref f] news 14 96 (fun news' v => MV news r q ts (p + 1) news' ∧ DatIn news' v (figD (Str.ofString "HIGH"))) := by
  have k1 : isNum ts p = false := isNum_not e (by decide +kernel) (by decide +kernel)
  have k2 : isK ts p sLiteral = false := isK_of e (by decide +kernel)
  have k3 : isKW ts p sWord wALL = false := isKW_of e (by decide +kernel)
  walk_at "V enter"
  walk_at "V steps"
  all_goals (refine hret _ _ ⟨?_, ?_⟩; (walk_at "V mvend"); exact z9)
theorem ro_LOWVALUES (R : RS news r q ts p pt) (f : Addr) (e : ts[p]? = some (sWord, wLOWVALUES)) :
    Con G 181 [.ref r, .ref f] news 14 96 (fun news' v => MV news r q ts (p + 1) news' ∧ DatIn news' v (figD (Str.ofString "LOW"))) := by
  have k1 : isNum ts p = false := isNum_not e (by decide +kernel) (by decide +kernel)
  have k2 : isK ts p sLiteral = false := isK_of e (by decide +kernel)
  have k3 : isKW ts p sWord wALL = false := isKW_of e (by decide +kernel)
  walk_at "V enter"
  walk_at "V steps"
  all_goals (refine hret _ _ ⟨?_, ?_⟩; (walk_at "V mvend"); exact z9)
theorem ro_ZERO (R : RS news r q ts p pt) (f : Addr) (e : ts[p]? = some (sWord, wZERO)) :
    Con G 181 [.ref r, .ref f] news 14 96 (fun news' v => MV news r q ts (p + 1) news' ∧ DatIn news' v (figD (Str.ofString "ZERO"))) := by
  have k1 : isNum ts p = false := isNum_not e (by decide +kernel) (by decide +kernel)
  have k2 : isK ts p sLiteral = false := isK_of e (by decide +kernel)
  have k3 : isKW ts p sWord wALL = false := isKW_of e (by decide +kernel)
  walk_at "V enter"
  walk_at "V steps"
  all_goals (refine hret _ _ ⟨?_, ?_⟩; (walk_at "V mvend"); exact z9)
end
/-- does a word stand among the words of the figurative constants, as the program asks it -/
noncomputable def figIn (x : Str) : Bool := !(Builtin.Str.occurrences (Str.ofString " ZERO ZEROS ZEROES SPACE SPACES HIGH-VALUE HIGH-VALUES LOW-VALUE LOW-VALUES QUOTE QUOTES ALL ") ((⟨⟨[32]⟩⟩ : Str) ++ x ++ (⟨⟨[32]⟩⟩ : Str)) 0 (Str.ofString " ZERO ZEROS ZEROES SPACE SPACES HIGH-VALUE HIGH-VALUES LOW-VALUE LOW-VALUES QUOTE QUOTES ALL ").length 1).isEmpty
noncomputable def beginsB (P : Params) (ts : Toks) (p : Nat) : Bool := match ts[p]? with
  | some x => isNum ts p || x.1 == sLiteral || isName P ts p || (x.1 == sWord && figIn x.2)
  | none => false
theorem isNum_none {ts : Toks} {p : Nat} (e : ts[p]? = none) : isNum ts p = false := by simp only [isNum, isKW, isK, e]; rfl
section
variable {G : Gl} {news : News'} {r : Addr} {q : RP} {ts : Toks} {p : Nat} {pt : Tok}
theorem begins_c (R : RS news r q ts p pt) (sm : Small ts) :
    Con G 251 [.ref r] news 12 84 (fun news' v => news' = news ∧ v = .bool (beginsB G.w.params ts p)) := by
  cases e : ts[p]? with
  | some x =>
    obtain ⟨k', w'⟩ := x
    have hwl : w'.length ≤ 64 := sm _ (List.mem_of_getElem? e)
    have e2 : beginsB G.w.params ts p = (isNum ts p || isK ts p sLiteral || isName G.w.params ts p || (isK ts p sWord && figIn w')) := by simp only [beginsB, isK, e]
    rw [e2]
    walk_at "V enter"
    walk_at "V steps"
    all_goals (walk_at "V endsame"; simp_all [figIn])
  | none =>
    have e2 : beginsB G.w.params ts p = false := by simp only [beginsB, e]
    have e3 : isNum ts p = false := isNum_none e
    have e4 : isK ts p sLiteral = false := by simp only [isK, e]
    have e5 : isName G.w.params ts p = false := by simp only [isName, e]
    have e6 : isK ts p sWord = false := by simp only [isK, e]
    rw [e2]
    walk_at "V enter"
    walk_at "V steps"
    all_goals (walk_at "V endsame"; simp_all)
end
theorem kw_RA_end : True := by
  (k_with "past RA" => skip)
  trivial
end Mine
end
noncomputable section
open PySem PySem.W PyProof.Rows PySem.Calls
set_option Elab.async false
set_option maxRecDepth 100000
set_option maxHeartbeats 4000000
namespace Mine
theorem setAt_above {l : News'} {d a : Addr} {o : Obj} (h : ∀ x ∈ l, x.1 < a) : ∀ x ∈ setAt l d o, x.1 < a := fun x hx => by
  have : x.1 ∈ (setAt l d o).map (·.1) := List.mem_map.mpr ⟨x, hx, rfl⟩
  rw [setAt_keys] at this
  obtain ⟨y, hy, e⟩ := List.mem_map.mp this
  rw [← e]; exact h y hy
section
variable {led : News'} {r : Addr} {q : RP} {ts : Toks} {p : Nat} {pt : Tok}
theorem tab_ne (o : Obj) (ps : Array Value) (h : o = tabObj ps) (q : RP) (p : Int) (pt : Tok) : rdD q p pt ≠ o := fun e => tab_rd q p pt ps (e.trans h)
/-- the table of read_primary's block grown: the reader stands as it stood -/
theorem RS.grown (R : RS led r q ts p pt) {ps : Array Value} (m : (232, tabObj ps) ∈ led) (ht : TriplesOk ps.toList) (hn : codeAmong lamPos ps.toList = none) (c : Addr) :
    MV led r q ts p (setAt led 232 (tabObj (ps ++ #[rawInt lamPos.line, rawInt lamPos.col, .ref c]))) := by
  have K : Keeps led (setAt led 232 (tabObj (ps ++ #[rawInt lamPos.line, rawInt lamPos.col, .ref c]))) q.dr := fun x hx _ n => mem_setAt hx n
  refine ⟨pt, R.kept K (mem_setAt R.dict (R.neT R.dict fun _ => tab_rd _ _ _ _)) (by rw [setAt_keys]; exact R.nodup) R.here ⟨_, mem_setAt_self m, ?_, Or.inr ⟨c, ?_⟩⟩, K⟩
  · rw [Array.toList_append]; exact TriplesOk_snoc _ _ _ _ ht
  · rw [Array.toList_append]; exact codeAmong_snoc _ ht hn
end
section
variable {M : Model} {A : Around} {E : Value → Shared → Prop} {s : Shared} {h₀ : Heap} {L a c : Addr} {m mg mb : Str → Option Value} {cn : Str} {cs : Scope} {ccd : Value} {cl : List (Str × Addr)} {led : News'}
  {pg : Program} {loose : List Str} {mean : ExcName → Option Value} {name qual : Str} {params : Arguments} {body : Expr} {scope : Scope} {firstLine : Nat} {clos : List (Str × Addr)} {r : Addr} {q : RP} {ts : Toks} {p : Nat} {pt : Tok}
theorem lam_step {Q : Value → Shared → Prop} (R : RS led r q ts p pt) (F : Fr h₀ L s.heap m) (N : News h₀ L s.heap led) (T : Top pg loose mean mg mb h₀) (C : CodeHd h₀ c 232) (hcd : ccd = .ref c) (hcl : closureFor scope (envX cn cs L a ccd cl) = pure clos)
    (h : ∀ f led' h' tk, Fr h₀ L h' m → News h₀ L h' led' → MV led r q ts p led' → Q (.ref f) { s with heap := h', toks := tk }) :
    wpAny M A (makeFunction name qual params (.expr body) scope (envX cn cs L a ccd cl) [] [] [] lamPos firstLine) Q E s := by
  obtain ⟨ps, m232, ht, hc⟩ := R.tab
  rcases hc with hn | ⟨c0, hs⟩
  · obtain ⟨g, U, eg⟩ := updF_at R.nodup m232
    refine kla_nest F N T C hcd U ht hn hcl fun f c' oc vs t ctv h' tk F' N' _ _ l1 l2 => ?_
    rw [eg] at N'
    refine h _ _ _ _ F' N' ?_
    have l1' := setAt_above (d := 232) (o := tabObj (ps ++ #[rawInt lamPos.line, rawInt lamPos.col, .ref c'])) l1
    refine MV.cons (fun x hx => ?_) (MV.cons l1' (R.grown m232 ht hn c'))
    rcases List.mem_cons.mp hx with rfl | hx
    · exact l2
    · exact Nat.lt_trans (l1' x hx) l2
  · refine kla_hit F N T C hcd m232 ht hs hcl fun f ctv h' tk F' N' l1 => ?_
    exact h _ _ _ _ F' N' (MV.cons l1 ⟨pt, R, Keeps.refl _ _⟩)
end
end Mine
end
noncomputable section
open PySem PySem.W PyProof.Rows PySem.Calls
set_option Elab.async false
set_option maxRecDepth 100000
set_option maxHeartbeats 4000000
namespace Mine
theorem tup_ne (vs : Array Value) (n : Nat) (q : RP) (p : Int) (pt : Tok) : (({ cls := .type "tuple", data := .seq vs n } : Obj)) ≠ rdD q p pt := fun e => by
  have := congrArg Obj.cls e
  simp at this
theorem tab_tup (vs : Array Value) (n : Nat) (ps : Array Value) : (({ cls := .type "tuple", data := .seq vs n } : Obj)) ≠ tabObj ps := fun e => by
  have := congrArg Obj.data e
  cases this
theorem tup_lst (vs : Array Value) (n : Nat) (its : Array Value) (k : Nat) : (({ cls := .type "tuple", data := .seq vs n } : Obj)) ≠ lstO its k := fun e => by
  have := congrArg Obj.cls e
  simp at this
mutual
/-- a tree without a list in it -/
noncomputable def noL : Dat → Bool
  | .tuple ds => noLs ds
  | .list _ => false
  | _ => true
noncomputable def noLs : List Dat → Bool
  | [] => true
  | d :: ds => noL d && noLs ds
end
mutual
theorem datMoved {a b : News'} (k : ∀ (x : Addr) (vs : Array Value) (n : Nat), (x, ({ cls := .type "tuple", data := .seq vs n } : Obj)) ∈ a → (x, ({ cls := .type "tuple", data := .seq vs n } : Obj)) ∈ b) : ∀ {v : Value} {d : Dat}, DatIn a v d → noL d = true → DatIn b v d
  | _, _, .none, _ => .none
  | _, _, .bool b, _ => .bool b
  | _, _, .int i t, _ => .int i t
  | _, _, .str x t, _ => .str x t
  | _, _, .bytes b t, _ => .bytes b t
  | _, _, .tuple h r, f => .tuple (k _ _ _ h) (datAllMoved k r (by rw [noL] at f; exact f))
  | _, _, .list h r, f => by rw [noL] at f; cases f
theorem datAllMoved {a b : News'} (k : ∀ (x : Addr) (vs : Array Value) (n : Nat), (x, ({ cls := .type "tuple", data := .seq vs n } : Obj)) ∈ a → (x, ({ cls := .type "tuple", data := .seq vs n } : Obj)) ∈ b) : ∀ {vs : List Value} {ds : List Dat}, DatAll a vs ds → noLs ds = true → DatAll b vs ds
  | _, _, .nil, _ => .nil
  | _, _, .cons h r, f => by
    rw [noLs, Bool.and_eq_true] at f
    exact .cons (datMoved k h f.1) (datAllMoved k r f.2)
end
section
variable {led led' : News'} {r : Addr} {q : RP} {ts : Toks} {p : Nat} {pt : Tok} {v : Value} {d : Dat} {vs : List Value} {ds : List Dat}
theorem keptT (R : RS led r q ts p pt) (K : Keeps led led' q.dr) (x : Addr) (vs : Array Value) (n : Nat) (h : (x, ({ cls := .type "tuple", data := .seq vs n } : Obj)) ∈ led) : (x, ({ cls := .type "tuple", data := .seq vs n } : Obj)) ∈ led' :=
  K _ h (R.ne h fun _ _ => tup_ne _ _ _ _ _) (R.neT h fun _ => tab_tup _ _ _)
theorem datKept (K : Keeps led led' q.dr) (R : RS led r q ts p pt) (h : DatIn led v d) (f : noL d = true) : DatIn led' v d := datMoved (keptT R K) h f
theorem datAllKept (K : Keeps led led' q.dr) (R : RS led r q ts p pt) (h : DatAll led vs ds) (f : noLs ds = true) : DatAll led' vs ds := datAllMoved (keptT R K) h f
theorem dat_cons {x : Addr × Obj} (h : DatIn led v d) : DatIn (x :: led) v d := h.mono fun _ h => .tail _ h
theorem datAll_cons {x : Addr × Obj} (h : DatAll led vs ds) : DatAll (x :: led) vs ds := h.mono fun _ h => .tail _ h
theorem keepL (R : RS led r q ts p pt) (K : Keeps led led' q.dr) {l : Addr} {its : Array Value} {n : Nat} (m : (l, lstO its n) ∈ led) : (l, lstO its n) ∈ led' :=
  K _ m (R.ne m fun _ _ => lst_ne _ _ _ _ _) (R.neT m fun _ => tab_lst _ _ _)
theorem keptL {l : Addr} {its : Array Value} {n : Nat} (K : Keeps led led' q.dr) (R : RS led r q ts p pt) (m : (l, lstO its n) ∈ led) : (l, lstO its n) ∈ led' := keepL R K m
theorem setT {l : Addr} {its its' : Array Value} {n n' : Nat} (hn : (led.map (·.1)).Nodup) (m : (l, lstO its n) ∈ led) (x : Addr) (vs : Array Value) (k : Nat) (h : (x, ({ cls := .type "tuple", data := .seq vs k } : Obj)) ∈ led) : (x, ({ cls := .type "tuple", data := .seq vs k } : Obj)) ∈ setAt led l (lstO its' n') :=
  mem_setAt h (ne_at hn h m (tup_lst _ _ _ _))
theorem datSet {l : Addr} {its its' : Array Value} {n n' : Nat} (m : (l, lstO its n) ∈ led) (R : RS led r q ts p pt) (h : DatIn led v d) (f : noL d = true) : DatIn (setAt led l (lstO its' n')) v d := datMoved (setT R.nodup m) h f
theorem datAllSet {l : Addr} {its its' : Array Value} {n n' : Nat} (m : (l, lstO its n) ∈ led) (R : RS led r q ts p pt) (h : DatAll led vs ds) (f : noLs ds = true) : DatAll (setAt led l (lstO its' n')) vs ds := datAllMoved (setT R.nodup m) h f
theorem RS.setL {l : Addr} {its its' : Array Value} {n n' : Nat} (m : (l, lstO its n) ∈ led) (hne : l ≠ q.tl) (R : RS led r q ts p pt) : RS (setAt led l (lstO its' n')) r q ts p pt := by
  obtain ⟨itr, nr, hl, hs, ht⟩ := R.list
  refine ⟨mem_setAt R.inst (ne_at R.nodup R.inst m fun e => by cases congrArg Obj.cls e), mem_setAt R.dict (ne_at R.nodup R.dict m fun e => lst_ne _ _ _ _ _ e.symm), ⟨itr, nr, mem_setAt hl hne.symm, hs, fun i k w e => ?_⟩, by rw [setAt_keys]; exact R.nodup, R.small, R.here, ?_⟩
  · obtain ⟨t, tp, h1, h2⟩ := ht i k w e
    refine ⟨t, tp, h1, mem_setAt h2.inst (ne_at R.nodup h2.inst m fun e => by cases congrArg Obj.cls e), mem_setAt h2.dict (ne_at R.nodup h2.dict m fun e => ?_)⟩
    have := congrArg Obj.data e
    cases this
  · obtain ⟨ps, m', h⟩ := R.tab
    exact ⟨ps, mem_setAt m' (ne_at R.nodup m' m (tab_lst _ _ _).symm), h⟩
theorem RS.tlne (R : RS led r q ts p pt) {a : Addr} (h : ∀ x ∈ led, x.1 < a) : a ≠ q.tl := by
  obtain ⟨itr, nr, hl, _⟩ := R.list
  exact Nat.ne_of_gt (h _ hl)
theorem keeps_setL {l : Addr} {o : Obj} {d : Addr} (h : Keeps led led' d) (hb : ∀ x ∈ led, x.1 ≠ l) : Keeps led (setAt led' l o) d := fun x hx n n' => mem_setAt (h x hx n n') (hb x hx)
theorem keeps_tail {x : Addr × Obj} {d : Addr} (h : Keeps (x :: led) led' d) : Keeps led led' d := fun y hy => h y (.tail _ hy)
theorem ne_above {a : Addr} (h : ∀ x ∈ led, x.1 < a) : ∀ x ∈ led, x.1 ≠ a := fun x hx => Nat.ne_of_lt (h x hx)
end
theorem lam_code {w : World} {h : Heap} (X : (KN w.params).In h) : CodeHd h 236 232 := codeHd_of_K X (by kernel_rfl!)
noncomputable abbrev yPM : List Str := [Str.ofString "+", Str.ofString "-"]
noncomputable abbrev yMD : List Str := [Str.ofString "*", Str.ofString "/"]
noncomputable abbrev yPW : List Str := [Str.ofString "**"]
theorem signAt_not {ts : Toks} {p : Nat} {k x : Str} (e : ts[p]? = some (k, x)) (h : (k == sSign) = false) (ys : List Str) : signAt ts p ys = sEmpty := by simp only [signAt, e, h, Bool.false_and]; rfl
theorem signAt_of {ts : Toks} {p : Nat} {x y : Str} {ys : List Str} (e : ts[p]? = some (sSign, x)) (h : (if (sSign == sSign && ys.any (· == x)) = true then x else sEmpty) = y) : signAt ts p ys = y := by simp only [signAt, e]; exact h
end Mine
end
noncomputable section
open PySem PySem.W PyProof.Rows PySem.Calls
set_option Elab.async false
set_option maxRecDepth 100000
set_option maxHeartbeats 4000000
namespace Mine
section
variable {G : Gl} {news : News'} {r : Addr} {q : RP} {ts : Toks} {p : Nat} {pt : Tok}
theorem con_ret {G : Gl} {f : Addr} {vs : List Value} {news : News'} {D U D0 U0 : Nat}
    {A : Around} {h₀ : Heap} {L : Addr} {m : Str → Option Value} {s : Shared} {Q E : Value → Shared → Prop} {r : Addr} {q : RP} {ts : Toks} {p₀ : Nat} {ds : List Dat}
    (C : Con G f vs news D U (fun n v => MV news r q ts p₀ n ∧ DatIn n v (.tuple ds))) (B : Site A L h₀ D0 U0) (F : Fr h₀ L s.heap m) (X : (KN G.w.params).In h₀) (N : News h₀ L s.heap news) (T : Top topProg G.loose G.mean G.mg G.mb h₀) (hd : Nat.ble (D + 1) D0 = true) (hu : Nat.ble (U + 3) U0 = true)
    (ret : ∀ pt D n' h' tk', Fr h₀ L h' m → News h₀ L h' n' → RS n' r q ts p₀ pt → Keeps news n' q.dr → DatIn n' (.ref D) (.tuple ds) → Q (.ref D) { s with heap := h', toks := tk' }) : wpAny (model PySem.Challenge.rw_qd0103_01.prog G.w) A (call (.ref f) vs) Q E s :=
  con_site C B F X N T hd hu fun _ _ h tk F' N' p => by obtain ⟨⟨pt, R, K⟩, z⟩ := p; obtain ⟨D, e⟩ := datRef z; subst e; exact ret pt D _ _ _ F' N' R K z
theorem rp_5 (R : RS news r q ts p pt) (d : Tok) (e : ts[p]? = some (sNumber, s5)) :
    Con G 237 [.ref r, .int 0 d] news 18 120 (fun news' v => MV news r q ts (p + 1) news' ∧ DatIn news' v (numD 5)) := by
  obtain ⟨hr, hd9, _, _, _, _, _⟩ := id R
  have k1 : signAt ts p yPM = sEmpty := signAt_not e (by decide +kernel) _
  have k2 : isKW ts p sSign sLpar = false := isKW_of e (by rw [show (sNumber == sSign) = false by decide +kernel, Bool.false_and])
  walk_at "MINE enterC"
  k_steps
  all_goals (refine hret _ _ _ _ (by k_asm) (by k_asm) ⟨?_, ?_⟩; (walk_at "MINE mvend"); walk_at "MINE dat")
end
end Mine
end
noncomputable section
open PySem PySem.W PyProof.Rows PySem.Calls
set_option Elab.async false
set_option maxRecDepth 100000
set_option maxHeartbeats 4000000
namespace Mine
section
variable {G : Gl} {news : News'} {r : Addr} {q : RP} {ts : Toks} {p : Nat} {pt : Tok}
theorem rpow_5 (R : RS news r q ts p pt) (d : Tok) (e : ts[p]? = some (sNumber, s5)) (f : signAt ts (p + 1) yPW = sEmpty) :
    Con G 230 [.ref r, .int 0 d] news 20 132 (fun news' v => MV news r q ts (p + 1) news' ∧ DatIn news' v (numD 5)) := by
  walk_at "V enter"
  walk_at "V steps"
  all_goals (refine hret _ _ ⟨?_, ?_⟩; (walk_at "V mvend"); walk_at "V dat")
theorem rfac_5 (R : RS news r q ts p pt) (d : Tok) (e : ts[p]? = some (sNumber, s5)) (f : signAt ts (p + 1) yPW = sEmpty) :
    Con G 216 [.ref r, .int 0 d] news 22 144 (fun news' v => MV news r q ts (p + 1) news' ∧ DatIn news' v (numD 5)) := by
  have k1 : signAt ts p yPM = sEmpty := signAt_not e (by decide +kernel) _
  walk_at "V enter"
  walk_at "V steps"
  all_goals (refine hret _ _ ⟨?_, ?_⟩; (walk_at "V mvend"); walk_at "V dat")
end
section
variable {G : Gl} {news : News'} {r : Addr} {q : RP} {ts : Toks} {p : Nat} {pt : Tok}
theorem rprod_5 (R : RS news r q ts p pt) (d : Tok) (e : ts[p]? = some (sNumber, s5)) (f : signAt ts (p + 1) yPW = sEmpty) (g : signAt ts (p + 1) yMD = sEmpty) :
    Con G 209 [.ref r, .int 0 d] news 24 156 (fun news' v => MV news r q ts (p + 1) news' ∧ DatIn news' v (numD 5)) := by
  walk_at "V enter"
  walk_at "V steps"
  all_goals (refine hret _ _ ⟨?_, ?_⟩; (walk_at "V mvend"); walk_at "V dat")
theorem rsum_5 (R : RS news r q ts p pt) (d : Tok) (e : ts[p]? = some (sNumber, s5)) (f : signAt ts (p + 1) yPW = sEmpty) (g : signAt ts (p + 1) yMD = sEmpty) (h : signAt ts (p + 1) yPM = sEmpty) :
    Con G 202 [.ref r, .int 0 d] news 26 168 (fun news' v => MV news r q ts (p + 1) news' ∧ DatIn news' v (numD 5)) := by
  walk_at "V enter"
  walk_at "V steps"
  all_goals (refine hret _ _ ⟨?_, ?_⟩; (walk_at "V mvend"); walk_at "V dat")
theorem rsum_55 (R : RS news r q ts p pt) (d : Tok) (e : ts[p]? = some (sNumber, s5)) (e1 : ts[p + 1]? = some (sSign, sMinus)) (e2 : ts[p + 2]? = some (sNumber, s5)) (f : signAt ts (p + 3) yPW = sEmpty) (g : signAt ts (p + 3) yMD = sEmpty) (h : signAt ts (p + 3) yPM = sEmpty) :
    Con G 202 [.ref r, .int 0 d] news 26 168 (fun news' v => MV news r q ts (p + 3) news' ∧ DatIn news' v (.tuple [.str sMinus, numD 5, numD 5])) := by
  have k1 : signAt ts (p + 1) yPW = sEmpty := signAt_of e1 (by decide +kernel)
  have k2 : signAt ts (p + 1) yMD = sEmpty := signAt_of e1 (by decide +kernel)
  have k3 : signAt ts (p + 1) yPM = sMinus := signAt_of e1 (by decide +kernel)
  walk_at "V enter"
  walk_at "V steps"
  all_goals (refine hret _ _ ⟨?_, ?_⟩; (walk_at "V mvend"); exact .tuple (by k_mem) (.cons (.str _ _) (.cons (by walk_at "V dat") (.cons (by walk_at "V dat") .nil))))
theorem rexp_5 (R : RS news r q ts p pt) (e : ts[p]? = some (sNumber, s5)) (f : signAt ts (p + 1) yPW = sEmpty) (g : signAt ts (p + 1) yMD = sEmpty) (h : signAt ts (p + 1) yPM = sEmpty) :
    Con G 188 [.ref r] news 28 180 (fun news' v => MV news r q ts (p + 1) news' ∧ DatIn news' v (numD 5)) := by
  walk_at "V enter"
  walk_at "V steps"
  all_goals (refine hret _ _ ⟨?_, ?_⟩; (walk_at "V mvend"); walk_at "V dat")
theorem rexp_55 (R : RS news r q ts p pt) (e : ts[p]? = some (sNumber, s5)) (e1 : ts[p + 1]? = some (sSign, sMinus)) (e2 : ts[p + 2]? = some (sNumber, s5)) (f : signAt ts (p + 3) yPW = sEmpty) (g : signAt ts (p + 3) yMD = sEmpty) (h : signAt ts (p + 3) yPM = sEmpty) :
    Con G 188 [.ref r] news 28 180 (fun news' v => MV news r q ts (p + 3) news' ∧ DatIn news' v (.tuple [.str sMinus, numD 5, numD 5])) := by
  walk_at "V enter"
  walk_at "V steps"
  all_goals (refine hret _ _ ⟨?_, ?_⟩; (walk_at "V mvend"); walk_at "V dat")
end
/-- K ( 5 - 5 ) -/
structure SubAt (ts : Toks) (p : Nat) : Prop where
  t0 : ts[p]? = some (sSign, sLpar)
  t1 : ts[p + 1]? = some (sNumber, s5)
  t2 : ts[p + 2]? = some (sSign, sMinus)
  t3 : ts[p + 3]? = some (sNumber, s5)
  t4 : ts[p + 4]? = some (sSign, sRpar)
/-- K ( 5 : 5 ) -/
structure PartAt (ts : Toks) (p : Nat) : Prop where
  t0 : ts[p]? = some (sSign, sLpar)
  t1 : ts[p + 1]? = some (sNumber, s5)
  t2 : ts[p + 2]? = some (sSign, sColon)
  t3 : ts[p + 3]? = some (sNumber, s5)
  t4 : ts[p + 4]? = some (sSign, sRpar)
theorem isKW_num {ts : Toks} {i : Nat} {x : Str} (e : ts[i]? = some (sNumber, x)) (y : Str) : isKW ts i sSign y = false := isKW_of e (by rw [show (sNumber == sSign) = false by decide +kernel, Bool.false_and])
theorem isKW_sgnW {ts : Toks} {i : Nat} {x : Str} (e : ts[i]? = some (sSign, x)) (y : Str) : isKW ts i sWord y = false := isKW_of e (by rw [show (sSign == sWord) = false by decide +kernel, Bool.false_and])
section
variable {G : Gl} {news : News'} {r : Addr} {q : RP} {ts : Toks} {p : Nat} {pt : Tok}
theorem ipn_sub (R : RS news r q ts p pt) (S : SubAt ts p) :
    Con G 139 [.ref r] news 12 84 (fun news' v => news' = news ∧ v = .bool false) := by
  obtain ⟨t0, t1, t2, t3, t4⟩ := S
  have a0 : isKW ts p sSign sLpar = true := isKW_of t0 (by decide +kernel)
  have a1 : isKW ts (p + 1) sSign sLpar = false := isKW_num t1 _
  have a2 : isKW ts (p + 1) sSign sRpar = false := isKW_num t1 _
  have a3 : isKW ts (p + 1) sSign sColon = false := isKW_num t1 _
  have a4 : isKW ts (p + 2) sSign sLpar = false := isKW_of t2 (by decide +kernel)
  have a5 : isKW ts (p + 2) sSign sRpar = false := isKW_of t2 (by decide +kernel)
  have a6 : isKW ts (p + 2) sSign sColon = false := isKW_of t2 (by decide +kernel)
  have b1 : isKW ts (p + 3) sSign sLpar = false := isKW_num t3 _
  have b2 : isKW ts (p + 3) sSign sRpar = false := isKW_num t3 _
  have b3 : isKW ts (p + 3) sSign sColon = false := isKW_num t3 _
  have b4 : isKW ts (p + 4) sSign sLpar = false := isKW_of t4 (by decide +kernel)
  have b5 : isKW ts (p + 4) sSign sRpar = true := isKW_of t4 (by decide +kernel)
  walk_at "V enter"
  walk_at "V steps"
  all_goals (walk_at "V endsame"; rfl)
theorem rsubs (R : RS news r q ts p pt) (S : SubAt ts p) :
    Con G 146 [.ref r, .ref 188] news 30 192 (fun news' v => MV news r q ts (p + 5) news' ∧ DatIn news' v (.tuple [.tuple [.str sMinus, numD 5, numD 5]])) := by
  obtain ⟨t0, t1, t2, t3, t4⟩ := S
  have a0 : isKW ts p sSign sLpar = true := isKW_of t0 (by decide +kernel)
  have b1 : signAt ts (p + 4) yPW = sEmpty := signAt_of t4 (by decide +kernel)
  have b2 : signAt ts (p + 4) yMD = sEmpty := signAt_of t4 (by decide +kernel)
  have b3 : signAt ts (p + 4) yPM = sEmpty := signAt_of t4 (by decide +kernel)
  have b5 : isKW ts (p + 4) sSign sRpar = true := isKW_of t4 (by decide +kernel)
  walk_at "V enter"
  walk_at "V steps"
  all_goals (refine hret _ _ ⟨?_, ?_⟩; (walk_at "V mvend"); exact .tuple (by k_mem) (.cons (by walk_at "V dat") .nil))
theorem rpart (R : RS news r q ts p pt) (S : PartAt ts p) :
    Con G 153 [.ref r, .ref 188] news 30 192 (fun news' v => MV news r q ts (p + 5) news' ∧ DatIn news' v (.tuple [numD 5, numD 5])) := by
  obtain ⟨t0, t1, t2, t3, t4⟩ := S
  have a0 : isKW ts p sSign sLpar = true := isKW_of t0 (by decide +kernel)
  have a6 : isKW ts (p + 2) sSign sColon = true := isKW_of t2 (by decide +kernel)
  have b2 : isKW ts (p + 3) sSign sRpar = false := isKW_num t3 _
  have b5 : isKW ts (p + 4) sSign sRpar = true := isKW_of t4 (by decide +kernel)
  have c1 : signAt ts (p + 2) yPW = sEmpty := signAt_of t2 (by decide +kernel)
  have c2 : signAt ts (p + 2) yMD = sEmpty := signAt_of t2 (by decide +kernel)
  have c3 : signAt ts (p + 2) yPM = sEmpty := signAt_of t2 (by decide +kernel)
  have d1 : signAt ts (p + 4) yPW = sEmpty := signAt_of t4 (by decide +kernel)
  have d2 : signAt ts (p + 4) yMD = sEmpty := signAt_of t4 (by decide +kernel)
  have d3 : signAt ts (p + 4) yPM = sEmpty := signAt_of t4 (by decide +kernel)
  walk_at "V enter"
  walk_at "V steps"
  all_goals (refine hret _ _ ⟨?_, ?_⟩; (walk_at "V mvend"); exact .tuple (by k_mem) (.cons (by walk_at "V dat") (.cons (by walk_at "V dat") .nil)))
end
/-- what stands behind an operand: none of OF, IN, ( -/
structure NextOk (ts : Toks) (p : Nat) : Prop where
  nOF : isKW ts p sWord wOF = false
  nIN : isKW ts p sWord wIN = false
  nLP : isKW ts p sSign sLpar = false
noncomputable abbrev refD (qs ss : List Dat) (part : Dat) : Dat := .tuple [.str (Str.ofString "ref"), .str wK, .tuple qs, .tuple ss, part]
theorem isName_of {P : Params} {ts : Toks} {i : Nat} {x : Str} (e : ts[i]? = some (sWord, x)) (h : resv P x = false) : isName P ts i = true := by
  simp only [isName, e, h]; decide +kernel
theorem ob_appendR {G : Gl} {sc : Sc} {X : Xx G sc} {K : List Kf} {ml : Ml} {ns : News'} {tk : Nat} {l : Addr} {its : Array Value} {n : Nat} {v : Value} {r : Addr} {q : RP} {ts : Toks} {p : Nat} {pt : Tok} (hm : (l, lstO its n) ∈ ns) (R : RS ns r q ts p pt) (hne : l ≠ q.tl) (hz : its.size ≤ sizeLine)
    (h : RS (setAt ns l (lstO (its.push v) (n + 1))) r q ts p pt → (l, lstO (its.push v) (n + 1)) ∈ setAt ns l (lstO (its.push v) (n + 1)) → go X 300 (.ret (.v .none)) K ml (setAt ns l (lstO (its.push v) (n + 1))) tk) : Ob X (.call (.builtin "list.append") [.ref l, v]) K ml ns tk :=
  ob_append (upd_at R.nodup hm) hz (h (RS.setL hm hne R) (mem_setAt_self hm))
theorem above_kept {news led : News'} {r : Addr} {q : RP} {ts : Toks} {p : Nat} {pt : Tok} {a : Addr} (l : ∀ x ∈ led, x.1 < a) (R : RS led r q ts p pt) (K : Keeps news led q.dr) : ∀ x ∈ news, x.1 < a := fun x hx => by
  by_cases h1 : x.1 = q.dr
  · rw [h1]; exact l _ R.dict
  · by_cases h2 : x.1 = 232
    · obtain ⟨ps, m, _⟩ := R.tab
      rw [h2]; exact l _ m
    · exact l _ (K x hx h1 h2)
section
variable {G : Gl} {news : News'} {r : Addr} {q : RP} {ts : Toks} {p : Nat} {pt : Tok}
theorem rref_K (R : RS news r q ts p pt) (sm : Small ts) (e : ts[p]? = some (sWord, wK)) (n : NextOk ts (p + 1)) :
    Con G 160 [.ref r, .ref 188] news 32 204 (fun news' v => MV news r q ts (p + 1) news' ∧ DatIn news' v (refD [] [] .none)) := by
  obtain ⟨n1, n2, n3⟩ := n
  have k1 := isName_of e (resv_K G.w.params)
  walk_at "V enter"
  walk_at "V steps"
  all_goals (refine hret _ _ ⟨?_, ?_⟩; (walk_at "V mvend"); exact .tuple (by k_mem) (.cons (.str _ _) (.cons (.str _ _) (.cons (.tuple (by k_mem) .nil) (.cons (.tuple (by k_mem) .nil) (.cons .none .nil))))))
theorem rref_KRF (R : RS news r q ts p pt) (sm : Small ts) (e : ts[p]? = some (sWord, wK)) (e1 : ts[p + 1]? = some (sWord, wOF)) (e2 : ts[p + 2]? = some (sWord, wR)) (e3 : ts[p + 3]? = some (sWord, wIN)) (e4 : ts[p + 4]? = some (sWord, wF)) (n : NextOk ts (p + 5)) :
    Con G 160 [.ref r, .ref 188] news 32 204 (fun news' v => MV news r q ts (p + 5) news' ∧ DatIn news' v (refD [.str wR, .str wF] [] .none)) := by
  obtain ⟨n1, n2, n3⟩ := n
  have k1 := isName_of e (resv_K G.w.params)
  have k2 := isName_of e2 (resv_R G.w.params)
  have k3 := isName_of e4 (resv_F G.w.params)
  have a1 : isKW ts (p + 1) sWord wOF = true := isKW_of e1 (by decide +kernel)
  have a2 : isKW ts (p + 3) sWord wOF = false := isKW_of e3 (by decide +kernel)
  have a3 : isKW ts (p + 3) sWord wIN = true := isKW_of e3 (by decide +kernel)
  walk_at "V enter"
  walk_at "V steps"
  all_goals (refine hret _ _ ⟨?_, ?_⟩; (walk_at "V mvend"); exact .tuple (by k_mem) (.cons (.str _ _) (.cons (.str _ _) (.cons (.tuple (by k_mem) (.cons (.str _ _) (.cons (.str _ _) .nil))) (.cons (.tuple (by k_mem) .nil) (.cons .none .nil))))))
theorem rref_sub (R : RS news r q ts p pt) (sm : Small ts) (e : ts[p]? = some (sWord, wK)) (S : SubAt ts (p + 1)) (n : isKW ts (p + 6) sSign sLpar = false) :
    Con G 160 [.ref r, .ref 188] news 32 204 (fun news' v => MV news r q ts (p + 6) news' ∧ DatIn news' v (refD [] [.tuple [.str sMinus, numD 5, numD 5]] .none)) := by
  have k1 := isName_of e (resv_K G.w.params)
  have n1 : isKW ts (p + 1) sWord wOF = false := isKW_sgnW S.t0 _
  have n2 : isKW ts (p + 1) sWord wIN = false := isKW_sgnW S.t0 _
  have n3 : isKW ts (p + 1) sSign sLpar = true := isKW_of S.t0 (by decide +kernel)
  walk_at "V enter"
  walk_at "V steps"
  all_goals (refine hret _ _ ⟨?_, ?_⟩; (walk_at "V mvend"); exact .tuple (by k_mem) (.cons (.str _ _) (.cons (.str _ _) (.cons (.tuple (by k_mem) .nil) (.cons (by walk_at "V dat") (.cons .none .nil))))))
theorem rref_part (R : RS news r q ts p pt) (sm : Small ts) (e : ts[p]? = some (sWord, wK)) (S : PartAt ts (p + 1)) :
    Con G 160 [.ref r, .ref 188] news 32 204 (fun news' v => MV news r q ts (p + 6) news' ∧ DatIn news' v (refD [] [] (.tuple [numD 5, numD 5]))) := by
  have k1 := isName_of e (resv_K G.w.params)
  have n1 : isKW ts (p + 1) sWord wOF = false := isKW_sgnW S.t0 _
  have n2 : isKW ts (p + 1) sWord wIN = false := isKW_sgnW S.t0 _
  have n3 : isKW ts (p + 1) sSign sLpar = true := isKW_of S.t0 (by decide +kernel)
  have t0 := S.t0
  have t1 := S.t1
  have t2 : ts[p + 1 + 2]? = some (sSign, sColon) := S.t2
  walk_at "V enter"
  walk_at "V steps"
  all_goals (refine hret _ _ ⟨?_, ?_⟩; (walk_at "V mvend"); exact .tuple (by k_mem) (.cons (.str _ _) (.cons (.str _ _) (.cons (.tuple (by k_mem) .nil) (.cons (by walk_at "V dat") (.cons (by walk_at "V dat") .nil))))))
end
theorem Con.mono {G : Gl} {f : Addr} {vs : List Value} {news : News'} {D U D' U' : Nat} {post : News' → Value → Prop} (C : Con G f vs news D U post) (h1 : D ≤ D') (h2 : U ≤ U') : Con G f vs news D' U' post :=
  fun dp un gd cn cs a ccd cl outer A₀ base h₀ L m s Q E B F X N T hk hd hu ret => C dp un gd cn cs a ccd cl outer A₀ base h₀ L m s Q E B F X N T hk (by omega) (by omega) ret
section
variable {G : Gl} {news : News'} {r : Addr} {q : RP} {ts : Toks} {p : Nat} {pt : Tok}
theorem ro_K (R : RS news r q ts p pt) (sm : Small ts) (e : ts[p]? = some (sWord, wK)) (n : NextOk ts (p + 1)) :
    Con G 181 [.ref r, .ref 188] news 34 216 (fun news' v => MV news r q ts (p + 1) news' ∧ DatIn news' v (refD [] [] .none)) := by
  have k1 : isNum ts p = false := isNum_not e (by decide +kernel) (by decide +kernel)
  have k2 : isK ts p sLiteral = false := isK_of e (by decide +kernel)
  have k3 : isKW ts p sWord wALL = false := isKW_of e (by decide +kernel)
  walk_at "V enter"
  walk_at "V steps"
  all_goals (refine hret _ _ ⟨?_, ?_⟩; (walk_at "V mvend"); walk_at "V dat")
theorem ro_KRF (R : RS news r q ts p pt) (sm : Small ts) (e : ts[p]? = some (sWord, wK)) (e1 : ts[p + 1]? = some (sWord, wOF)) (e2 : ts[p + 2]? = some (sWord, wR)) (e3 : ts[p + 3]? = some (sWord, wIN)) (e4 : ts[p + 4]? = some (sWord, wF)) (n : NextOk ts (p + 5)) :
    Con G 181 [.ref r, .ref 188] news 34 216 (fun news' v => MV news r q ts (p + 5) news' ∧ DatIn news' v (refD [.str wR, .str wF] [] .none)) := by
  have k1 : isNum ts p = false := isNum_not e (by decide +kernel) (by decide +kernel)
  have k2 : isK ts p sLiteral = false := isK_of e (by decide +kernel)
  have k3 : isKW ts p sWord wALL = false := isKW_of e (by decide +kernel)
  walk_at "V enter"
  walk_at "V steps"
  all_goals (refine hret _ _ ⟨?_, ?_⟩; (walk_at "V mvend"); walk_at "V dat")
theorem ro_sub (R : RS news r q ts p pt) (sm : Small ts) (e : ts[p]? = some (sWord, wK)) (S : SubAt ts (p + 1)) (n : isKW ts (p + 6) sSign sLpar = false) :
    Con G 181 [.ref r, .ref 188] news 34 216 (fun news' v => MV news r q ts (p + 6) news' ∧ DatIn news' v (refD [] [.tuple [.str sMinus, numD 5, numD 5]] .none)) := by
  have k1 : isNum ts p = false := isNum_not e (by decide +kernel) (by decide +kernel)
  have k2 : isK ts p sLiteral = false := isK_of e (by decide +kernel)
  have k3 : isKW ts p sWord wALL = false := isKW_of e (by decide +kernel)
  walk_at "V enter"
  walk_at "V steps"
  all_goals (refine hret _ _ ⟨?_, ?_⟩; (walk_at "V mvend"); walk_at "V dat")
theorem ro_part (R : RS news r q ts p pt) (sm : Small ts) (e : ts[p]? = some (sWord, wK)) (S : PartAt ts (p + 1)) :
    Con G 181 [.ref r, .ref 188] news 34 216 (fun news' v => MV news r q ts (p + 6) news' ∧ DatIn news' v (refD [] [] (.tuple [numD 5, numD 5]))) := by
  have k1 : isNum ts p = false := isNum_not e (by decide +kernel) (by decide +kernel)
  have k2 : isK ts p sLiteral = false := isK_of e (by decide +kernel)
  have k3 : isKW ts p sWord wALL = false := isKW_of e (by decide +kernel)
  walk_at "V enter"
  walk_at "V steps"
  all_goals (refine hret _ _ ⟨?_, ?_⟩; (walk_at "V mvend"); walk_at "V dat")
end
/-- the fifteen operands -/
noncomputable def itToks : Nat → Toks
  | 0 => [(sNumber, s5)]
  | 1 => [(sSign, sMinus), (sNumber, s5)]
  | 2 => [(sSign, sPlus), (sNumber, s50)]
  | 3 => [(sLiteral, sMinus)]
  | 4 => [(sWord, wK)]
  | 5 => [(sWord, wK), (sWord, wOF), (sWord, wR), (sWord, wIN), (sWord, wF)]
  | 6 => [(sWord, wK), (sSign, sLpar), (sNumber, s5), (sSign, sMinus), (sNumber, s5), (sSign, sRpar)]
  | 7 => [(sWord, wK), (sSign, sLpar), (sNumber, s5), (sSign, sColon), (sNumber, s5), (sSign, sRpar)]
  | 8 => [(sWord, wALL), (sLiteral, sAb)]
  | 9 => [(sWord, wALL), (sWord, wZEROS)]
  | 10 => [(sWord, wQUOTES)]
  | 11 => [(sWord, wSPACE)]
  | 12 => [(sWord, wHIGHVALUE)]
  | 13 => [(sWord, wLOWVALUES)]
  | 14 => [(sWord, wZERO)]
  | _ => []
noncomputable def itDs : Nat → List Dat
  | 0 => [.str (Str.ofString "number"), .tuple [.int 5, .int 0]]
  | 1 => [.str (Str.ofString "number"), .tuple [.int (-5), .int 0]]
  | 2 => [.str (Str.ofString "number"), .tuple [.int 5, .int 0]]
  | 3 => [.str (Str.ofString "text"), .bytes bMinus]
  | 4 => [.str (Str.ofString "ref"), .str wK, .tuple [], .tuple [], .none]
  | 5 => [.str (Str.ofString "ref"), .str wK, .tuple [.str wR, .str wF], .tuple [], .none]
  | 6 => [.str (Str.ofString "ref"), .str wK, .tuple [], .tuple [.tuple [.str sMinus, numD 5, numD 5]], .none]
  | 7 => [.str (Str.ofString "ref"), .str wK, .tuple [], .tuple [], .tuple [numD 5, numD 5]]
  | 8 => [.str (Str.ofString "all"), .bytes bAb]
  | 9 => [.str (Str.ofString "figure"), .str (Str.ofString "ZERO")]
  | 10 => [.str (Str.ofString "figure"), .str (Str.ofString "QUOTE")]
  | 11 => [.str (Str.ofString "figure"), .str (Str.ofString "SPACE")]
  | 12 => [.str (Str.ofString "figure"), .str (Str.ofString "HIGH")]
  | 13 => [.str (Str.ofString "figure"), .str (Str.ofString "LOW")]
  | 14 => [.str (Str.ofString "figure"), .str (Str.ofString "ZERO")]
  | _ => []
noncomputable abbrev itTree (i : Nat) : Dat := .tuple (itDs i)
theorem cases15 {P : Nat → Prop} (h0 : P 0) (h1 : P 1) (h2 : P 2) (h3 : P 3) (h4 : P 4) (h5 : P 5) (h6 : P 6) (h7 : P 7) (h8 : P 8) (h9 : P 9) (h10 : P 10) (h11 : P 11) (h12 : P 12) (h13 : P 13) (h14 : P 14) : ∀ i < 15, P i := by
  intro i hi
  match i, hi with
  | 0, _ => exact h0
  | 1, _ => exact h1
  | 2, _ => exact h2
  | 3, _ => exact h3
  | 4, _ => exact h4
  | 5, _ => exact h5
  | 6, _ => exact h6
  | 7, _ => exact h7
  | 8, _ => exact h8
  | 9, _ => exact h9
  | 10, _ => exact h10
  | 11, _ => exact h11
  | 12, _ => exact h12
  | 13, _ => exact h13
  | 14, _ => exact h14
  | n + 15, h => exact absurd h (by omega)
theorem it_noL : ∀ i < 15, noL (itTree i) = true := cases15 rfl rfl rfl rfl rfl rfl rfl rfl rfl rfl rfl rfl rfl rfl rfl
/-- the tokens l stand at p -/
noncomputable def At (ts : Toks) (p : Nat) (l : Toks) : Prop := ∀ (j : Nat) (x : Str × Str), l[j]? = some x → ts[p + j]? = some x
theorem At.left {ts : Toks} {p : Nat} {l l' : Toks} (h : At ts p (l ++ l')) : At ts p l := fun j x e => h j x (by rw [List.getElem?_append_left (List.getElem?_eq_some_iff.mp e).1]; exact e)
theorem At.right {ts : Toks} {p : Nat} {l l' : Toks} (h : At ts p (l ++ l')) : At ts (p + l.length) l' := fun j x e => by
  rw [Nat.add_assoc]; exact h _ x (by rw [List.getElem?_append_right (by omega), Nat.add_sub_cancel_left]; exact e)
theorem At.of {a l b : Toks} : At (a ++ (l ++ b)) a.length l := fun j x e => by
  rw [List.getElem?_append_right (by omega), Nat.add_sub_cancel_left, List.getElem?_append_left (List.getElem?_eq_some_iff.mp e).1]; exact e
section
variable {ts : Toks} {p : Nat}
theorem next_of {k x : Str} (e : ts[p]? = some (k, x)) (h : ((k == sWord && x == wOF) || (k == sWord && x == wIN) || (k == sSign && x == sLpar)) = false) : NextOk ts p := by
  simp only [Bool.or_eq_false_iff] at h
  exact ⟨isKW_of e h.1.1, isKW_of e h.1.2, isKW_of e h.2⟩
theorem next_none (e : ts[p]? = none) : NextOk ts p := ⟨by simp only [isKW, e], by simp only [isKW, e], by simp only [isKW, e]⟩
theorem next_item : ∀ i < 15, At ts p (itToks i) → NextOk ts p := by
  refine cases15 ?_ ?_ ?_ ?_ ?_ ?_ ?_ ?_ ?_ ?_ ?_ ?_ ?_ ?_ ?_ <;> intro h <;> exact next_of (h 0 _ rfl) (by decide +kernel)
theorem begins_sign {P : Params} {x : Str} (e : ts[p]? = some (sSign, x)) (h : isNum ts p = true) : beginsB P ts p = true := by
  simp only [beginsB, e, h, Bool.true_or]
theorem begins_word {P : Params} {x : Str} (e : ts[p]? = some (sWord, x)) (h : figIn x = true) : beginsB P ts p = true := by
  simp only [beginsB, e, h, Bool.and_true]
  rw [show (sWord == sWord) = true by decide +kernel, Bool.or_true]
theorem begins_K {P : Params} (e : ts[p]? = some (sWord, wK)) : beginsB P ts p = true := by
  simp only [beginsB, e, isName_of e (resv_K P), Bool.or_true, Bool.true_or]
theorem begins_item (P : Params) : ∀ i < 15, At ts p (itToks i) → beginsB P ts p = true := by
  refine cases15 ?_ ?_ ?_ ?_ ?_ ?_ ?_ ?_ ?_ ?_ ?_ ?_ ?_ ?_ ?_ <;> intro h
  · have e := h 0 _ rfl
    simp only [beginsB, show ts[p]? = some (sNumber, s5) from e, (isNum_plain (ts := ts) (p := p) e).1, Bool.true_or]
  · have e : ts[p]? = some (sSign, sMinus) := h 0 _ rfl
    have e1 : ts[p + 1]? = some (sNumber, s5) := h 1 _ rfl
    refine begins_sign e ?_
    unfold isNum; rw [isKW_of (k' := sSign) (w' := sMinus) (b := true) e (by decide +kernel), Bool.or_true, if_pos rfl]; exact isK_of e1 (by decide +kernel)
  · have e : ts[p]? = some (sSign, sPlus) := h 0 _ rfl
    have e1 : ts[p + 1]? = some (sNumber, s50) := h 1 _ rfl
    refine begins_sign e ?_
    unfold isNum; rw [isKW_of (k' := sSign) (w' := sPlus) (b := true) e (by decide +kernel), Bool.true_or, if_pos rfl]; exact isK_of e1 (by decide +kernel)
  · have e : ts[p]? = some (sLiteral, sMinus) := h 0 _ rfl
    simp only [beginsB, e]
    rw [show (sLiteral == sLiteral) = true by decide +kernel, Bool.or_true, Bool.true_or, Bool.true_or]
  · exact begins_K (h 0 _ rfl)
  · exact begins_K (h 0 _ rfl)
  · exact begins_K (h 0 _ rfl)
  · exact begins_K (h 0 _ rfl)
  · exact begins_word (h 0 _ rfl) (by decide +kernel)
  · exact begins_word (h 0 _ rfl) (by decide +kernel)
  · exact begins_word (h 0 _ rfl) (by decide +kernel)
  · exact begins_word (h 0 _ rfl) (by decide +kernel)
  · exact begins_word (h 0 _ rfl) (by decide +kernel)
  · exact begins_word (h 0 _ rfl) (by decide +kernel)
  · exact begins_word (h 0 _ rfl) (by decide +kernel)
end
section
variable {G : Gl} {news : News'} {r : Addr} {q : RP} {ts : Toks} {p : Nat} {pt : Tok}
theorem op_here (R : RS news r q ts p pt) (sm : Small ts) (b : beginsB G.w.params ts p = true) {post : News' → Value → Prop} (C : Con G 181 [.ref r, .ref 188] news 34 216 post) :
    Con G 258 [.ref r] news 36 228 post := by
  walk_at "V enter"
  walk_at "V steps"
  refine (?_ : Ob _ _ _ _ _ _)
  refine ob_call C rfl rfl fun v9 n9 tk9 p9 => ?_
  refine (?_ : End _ _ _)
  exact hret _ _ p9
theorem op_all : ∀ i < 15, ∀ {news : News'} {r : Addr} {q : RP} {ts : Toks} {p : Nat} {pt : Tok}, RS news r q ts p pt → Small ts → At ts p (itToks i) → NextOk ts (p + (itToks i).length) →
    Con G 258 [.ref r] news 36 228 (fun news' v => MV news r q ts (p + (itToks i).length) news' ∧ DatIn news' v (itTree i)) := by
  refine cases15 ?_ ?_ ?_ ?_ ?_ ?_ ?_ ?_ ?_ ?_ ?_ ?_ ?_ ?_ ?_ <;> intro news r q ts p pt R sm h n
  · exact op_here R sm (begins_item _ 0 (by decide) h) ((ro_5 R 188 (h 0 _ rfl)).mono (by decide) (by decide))
  · exact op_here R sm (begins_item _ 1 (by decide) h) ((ro_m5 R 188 (h 0 _ rfl) (h 1 _ rfl)).mono (by decide) (by decide))
  · exact op_here R sm (begins_item _ 2 (by decide) h) ((ro_p50 R 188 (h 0 _ rfl) (h 1 _ rfl)).mono (by decide) (by decide))
  · exact op_here R sm (begins_item _ 3 (by decide) h) ((ro_lit R 188 (h 0 _ rfl)).mono (by decide) (by decide))
  · exact op_here R sm (begins_item _ 4 (by decide) h) (ro_K R sm (h 0 _ rfl) n)
  · exact op_here R sm (begins_item _ 5 (by decide) h) (ro_KRF R sm (h 0 _ rfl) (h 1 _ rfl) (h 2 _ rfl) (h 3 _ rfl) (h 4 _ rfl) n)
  · exact op_here R sm (begins_item _ 6 (by decide) h) (ro_sub R sm (h 0 _ rfl) ⟨h 1 _ rfl, h 2 _ rfl, h 3 _ rfl, h 4 _ rfl, h 5 _ rfl⟩ n.nLP)
  · exact op_here R sm (begins_item _ 7 (by decide) h) (ro_part R sm (h 0 _ rfl) ⟨h 1 _ rfl, h 2 _ rfl, h 3 _ rfl, h 4 _ rfl, h 5 _ rfl⟩)
  · exact op_here R sm (begins_item _ 8 (by decide) h) ((ro_allab R 188 (h 0 _ rfl) (h 1 _ rfl)).mono (by decide) (by decide))
  · exact op_here R sm (begins_item _ 9 (by decide) h) ((ro_allZEROS R 188 (h 0 _ rfl) (h 1 _ rfl)).mono (by decide) (by decide))
  · exact op_here R sm (begins_item _ 10 (by decide) h) ((ro_QUOTES R 188 (h 0 _ rfl)).mono (by decide) (by decide))
  · exact op_here R sm (begins_item _ 11 (by decide) h) ((ro_SPACE R 188 (h 0 _ rfl)).mono (by decide) (by decide))
  · exact op_here R sm (begins_item _ 12 (by decide) h) ((ro_HIGHVALUE R 188 (h 0 _ rfl)).mono (by decide) (by decide))
  · exact op_here R sm (begins_item _ 13 (by decide) h) ((ro_LOWVALUES R 188 (h 0 _ rfl)).mono (by decide) (by decide))
  · exact op_here R sm (begins_item _ 14 (by decide) h) ((ro_ZERO R 188 (h 0 _ rfl)).mono (by decide) (by decide))
end
end Mine
end
noncomputable section
open PySem PySem.W PyProof.Rows PySem.Calls
set_option Elab.async false
set_option maxRecDepth 100000
set_option maxHeartbeats 4000000
namespace Mine
/-- a halt for the walk -/
structure Stop (P : Prop) : Prop where
  go : P
noncomputable abbrev flat (is : List Nat) : Toks := is.flatMap itToks
inductive EndIs (ts : Toks) (p : Nat) : Bool → Nat → Prop
  | a : isKW ts p sWord wWITH = false → isKW ts p sWord wNO = false → EndIs ts p false 0
  | b : isKW ts p sWord wWITH = true → isKW ts (p + 1) sWord wNO = false → isKW ts p sWord wNO = false → EndIs ts p false 0
  | c : isKW ts p sWord wWITH = false → isKW ts p sWord wNO = true → isKW ts (p + 1) sWord wADVANCING = true → EndIs ts p true 2
  | d : ts[p]? = some (sWord, wWITH) → isKW ts p sWord wWITH = true → isKW ts (p + 1) sWord wNO = true → isKW ts (p + 2) sWord wADVANCING = true → EndIs ts p true 3
/-- the loop over the operands: what holds at its head -/
structure LoopV (news : News') (r : Addr) (q : RP) (ts : Toks) (l : Addr) (D : List Dat) (pe : Nat) (is : List Nat) (p : Nat) (pt : Tok) (led : News') (vs : Array Value) (n : Nat) (ds : List Dat) : Prop where
  lt : ∀ i ∈ is, i < 15
  at_ : At ts p (flat is)
  pe_ : p + (flat is).length = pe
  R : RS led r q ts p pt
  hl : (l, lstO vs n) ∈ led
  hd : DatAll led vs.toList ds
  hn : noLs ds = true
  hs : vs.size + is.length ≤ 32
  K : Keeps news led q.dr
  hD : ds ++ is.map itTree = D
theorem noLs_append : ∀ (a b : List Dat), noLs (a ++ b) = (noLs a && noLs b)
  | [], b => by simp [noLs]
  | d :: a, b => by rw [List.cons_append, noLs, noLs, noLs_append a b, Bool.and_assoc]
theorem LoopV.next {news : News'} {r : Addr} {q : RP} {ts : Toks} {l : Addr} {D : List Dat} {pe : Nat} {i : Nat} {is : List Nat} {p : Nat} {pt : Tok} {led : News'} {vs : Array Value} {n : Nat} {ds : List Dat}
    (S : LoopV news r q ts l D pe (i :: is) p pt led vs n ds) (hb : ∀ x ∈ news, x.1 ≠ l) {led₁ : News'} {pt' : Tok} {v : Value} (R₁ : RS led₁ r q ts (p + (itToks i).length) pt') (K₁ : Keeps led led₁ q.dr) (z : DatIn led₁ v (itTree i))
    (R : RS (setAt led₁ l (lstO (vs.push v) (n + 1))) r q ts (p + (itToks i).length) pt') :
    LoopV news r q ts l D pe is (p + (itToks i).length) pt' (setAt led₁ l (lstO (vs.push v) (n + 1))) (vs.push v) (n + 1) (ds ++ [itTree i]) := by
  have hm : (l, lstO vs n) ∈ led₁ := keepL S.R K₁ S.hl
  have hi : i < 15 := S.lt i (.head _)
  have hsz := S.hs
  refine ⟨fun j hj => S.lt j (.tail _ hj), ?_, ?_, R, mem_setAt_self hm, ?_, ?_, ?_, keeps_setL (Keeps.trans S.K K₁) hb, ?_⟩
  · have := S.at_
    rw [show flat (i :: is) = itToks i ++ flat is from rfl] at this
    exact this.right
  · have := S.pe_
    rw [show flat (i :: is) = itToks i ++ flat is from rfl, List.length_append] at this
    omega
  · rw [Array.toList_push]
    exact DatAll.append (datAllSet hm R₁ (datAllKept K₁ S.R S.hd S.hn) S.hn) (DatAll.one (datSet hm R₁ z (it_noL i hi)))
  · rw [noLs_append, S.hn, noLs, noLs, it_noL i hi]; rfl
  · rw [Array.size_push]; simp only [List.length_cons] at hsz; omega
  · rw [← S.hD, List.map_cons, List.append_assoc]; rfl
theorem loopV_ind {G : Gl} {sc : Sc} {X : Xx G sc} {t : PySem.Expr} {b : List Stmt} {K : List Kf} {ml : Ml} {news : News'} {r : Addr} {q : RP} {ts : Toks} {l : Addr} {D : List Dat} {pe : Nat}
    (step : ∀ (is : List Nat) (p : Nat) (pt : Tok) (led : News') (tk : Nat) (vs : Array Value) (n : Nat) (ds : List Dat), LoopV news r q ts l D pe is p pt led vs n ds →
      (∀ i js, is = i :: js → ∀ p' pt' led' tk' vs' n' ds', LoopV news r q ts l D pe js p' pt' led' vs' n' ds' → go X 300 (.cond t) (.whT t b :: K) ml led' tk') → go X 300 (.cond t) (.whT t b :: K) ml led tk) :
    ∀ (is : List Nat) (p : Nat) (pt : Tok) (led : News') (tk : Nat) (vs : Array Value) (n : Nat) (ds : List Dat), LoopV news r q ts l D pe is p pt led vs n ds → go X 300 (.cond t) (.whT t b :: K) ml led tk := by
  intro is
  induction is with
  | nil => exact fun p pt led tk vs n ds S => step [] p pt led tk vs n ds S fun i js e => nomatch e
  | cons i is ih => exact fun p pt led tk vs n ds S => step (i :: is) p pt led tk vs n ds S fun i' js e => by cases e; exact ih
theorem next_flat {ts : Toks} {p : Nat} : ∀ {is : List Nat}, At ts p (flat is) → (∀ i ∈ is, i < 15) → NextOk ts (p + (flat is).length) → NextOk ts p
  | [], _, _, n => n
  | i :: is, h, lt, _ => next_item i (lt i (.head _)) (At.left (l' := flat is) h)
section
variable {G : Gl} {news : News'} {r : Addr} {q : RP} {ts : Toks} {p : Nat} {pt : Tok}
theorem kw_RC_1 : True := by
  (k_with "V more" => ((fail_if_success k_extra "past RC"); (first
  | ((with_reducible show Ob _ (Tk.exec (Stmt.While _ _ _ _)) _ _ _ _); refine Stop.go ?_)
  | ((with_reducible show Ob _ (Tk.ret _) (Kf.whB _ _ :: _) _ _ _); refine Stop.go ?_)
  | ((with_reducible show Ob _ (Tk.call (Value.ref 258) _) _ _ _ _); refine' ob_ret (hop ?R9) rfl rfl ?_; (case R9 => walk_at "V rs"); intro pt9 D9 n9 tk Rn9 Kn9 z9))))
  trivial
theorem rd_c (R : RS news r q ts 0 pt) (sm : Small ts) (f : Addr) (i₀ : Nat) (is : List Nat) (hlt : ∀ i ∈ i₀ :: is, i < 15) (hlen : is.length ≤ 20) (t0 : ts[0]? = some (sWord, wDISPLAY)) (hat : At ts 1 (flat (i₀ :: is))) {pe : Nat} (hpe : 1 + (flat (i₀ :: is)).length = pe)
    (hN : NextOk ts pe) (hb : beginsB G.w.params ts pe = false) {b : Bool} {k : Nat} (hE : EndIs ts pe b k) :
    Con G 265 [.ref r, .ref f] news 40 240 (fun news' v => MV news r q ts (pe + k) news' ∧ DatIn news' v (.tuple [.str (Str.ofString "display"), .tuple ((i₀ :: is).map itTree), .bool b])) := by
  have k0 : isKW ts 0 sWord wDISPLAY = true := isKW_of t0 (by decide +kernel)
  have hat0 : At ts 1 (itToks i₀ ++ flat is) := hat
  have hpe0 : 1 + (itToks i₀).length + (flat is).length = pe := by
    rw [show flat (i₀ :: is) = itToks i₀ ++ flat is from rfl, List.length_append] at hpe; omega
  have hn0 : NextOk ts (1 + (itToks i₀).length) := next_flat hat0.right (fun i h => hlt i (.tail _ h)) (by rw [hpe0]; exact hN)
  have hop : ∀ {led : News'} {pt' : Tok}, RS led r q ts (0 + 1) pt' → Con G 258 [.ref r] led 36 228 (fun news' v => MV led r q ts (0 + 1 + (itToks i₀).length) news' ∧ DatIn news' v (itTree i₀)) := fun R' => op_all i₀ (hlt _ (.head _)) R' sm hat0.left hn0
  walk_at "V enter"
  walk_at "V steps"
  refine Stop.mk (ob_while ?_)
  rename (∀ p : Addr × Obj, p ∈ _ → p.1 < _) => l₁
  have hb₁ : ∀ x ∈ news, x.1 ≠ _ := ne_above (above_kept l₁ (by walk_at "V rs") (by walk_at "V keeps"))
  have hne₁ := RS.tlne (by walk_at "V rs") l₁
  refine loopV_ind (news := news) (r := r) (q := q) (ts := ts) (pe := pe) (D := (i₀ :: is).map itTree) ?step is (0 + 1 + (itToks i₀).length) _ _ _ _ _ [itTree i₀] ⟨fun i h => hlt i (.tail _ h), hat0.right, hpe0, by walk_at "V rs", by k_mem, .cons (by walk_at "V dat") .nil, by rw [noLs, noLs, it_noL i₀ (hlt _ (.head _))]; rfl, by (show 1 + is.length ≤ 32); omega, by walk_at "V keeps", rfl⟩
  clear hop
  intro is' p pt' led tk vs n ds S IH
  obtain ⟨hlt', hat', hpe', R', hl', hd', hn', hs', hK', hD'⟩ := id S
  cases is' with
  | nil =>
    have e : p = pe := by simpa using hpe'
    subst e
    have hD₂ : ds = (i₀ :: is).map itTree := by simpa using hD'
    cases hE
    all_goals (try rw [Nat.add_zero] at hret)
    all_goals (walk_at "V steps")
    all_goals (refine hret _ _ ⟨?_, ?_⟩; (walk_at "V mvend"); (rw [← hD₂]; exact .tuple (by k_mem) (.cons (.str _ _) (.cons (.tuple (by k_mem) (by walk_at "V dats")) (.cons (.bool _) .nil)))))
  | cons i js =>
    have hat1 : At ts p (itToks i ++ flat js) := hat'
    have hi := hlt' i (.head _)
    have hb1 : beginsB G.w.params ts p = true := begins_item _ i hi hat1.left
    have hn1 : NextOk ts (p + (itToks i).length) := next_flat hat1.right (fun i h => hlt' i (.tail _ h)) (by
      rw [show flat (i :: js) = itToks i ++ flat js from rfl, List.length_append] at hpe'
      rw [Nat.add_assoc, hpe']; exact hN)
    have hop : ∀ {led : News'} {pt' : Tok}, RS led r q ts p pt' → Con G 258 [.ref r] led 36 228 (fun news' v => MV led r q ts (p + (itToks i).length) news' ∧ DatIn news' v (itTree i)) := fun R' => op_all i hi R' sm hat1.left hn1
    walk_at "V steps"
    refine Stop.mk (ob_turn (IH i js rfl _ _ _ _ _ _ _ (S.next hb₁ (by assumption) (by assumption) (by assumption) Rn9)))
end
theorem kw_RC_end : True := by
  (k_with "past RC" => skip)
  trivial
end Mine
end
noncomputable section
open PySem PySem.W PyProof.Rows PySem.Calls
set_option Elab.async false
set_option maxRecDepth 100000
set_option maxHeartbeats 4000000
namespace Mine
theorem kw_R24_1 : True := by
  (k_with "MINE enterCls" => ((fail_if_success k_extra "past R24"); ((
  intro dp un gd cn cs a ccd cl outer A₀ base h₀ L m s Q E B F
  k_fill
  intro X N T hk hd hu hret
  k_dflt (refine' call_cls ?k1 ?k2 ?k3 ?k4 ?k5 ?k6 ?_; (case k1 => k_asm); (case k2 => k_asm); (case k3 => k_asm); (case k4 => k_is); (case k5 => k_is); (case k6 => k_is); k_whole; intro x' d' h' F' N' l1 l2)
  k_dflt (refine' code_def ?k1 ?k2 ?k3 ?k4 ?k5 ?kA ?kF ?kK ?k6 ?k7 ?k8 ?k9 ?kB ?_ ?c2 ?c3 ?c4 ?c5; (case kA => exact rfl); (case kF => exact rfl); (case kK => assumption); (case k1 => k_asm); (case k2 => k_asm); (case k3 => k_asm); (case k4 => k_asm); (case k5 => k_asm); (case k6 => k_is); (case k7 => k_is); (case k8 => ktr_room); (case k9 => first | exact BindsTo.of_eq rfl | exact binds_K (by k_in) rfl (by k_is) rfl rfl rfl); (case c5 => decide); (case kB => exact locs rfl); (case c2 => exact rfl); (case c3 => exact rfl); (case c4 => exact rfl); k_whole; intro g' L' h' FG' F' N' B' X' T'; (try w_binds F'); (try dsimp only); (try k_fold))))))
  (k_with "k_upd" => ((fail_if_success k_extra "past R24"); (first | exact Upd.head (ne_above (by assumption)) | (refine' Upd.tail ?n8 ?u8; (case n8 => first | exact Nat.ne_of_gt (by assumption) | omega); (case u8 => k_upd)))))
  trivial
theorem nodup_above {l : News'} {a : Addr} {o : Obj} (h : ∀ x ∈ l, x.1 < a) (n : (l.map (·.1)).Nodup) : (((a, o) :: l).map (·.1)).Nodup := by
  rw [List.map_cons, List.nodup_cons]
  refine ⟨fun hm => ?_, n⟩
  obtain ⟨x, hx, e⟩ := List.mem_map.mp hm
  exact absurd (h x hx) (by rw [e]; exact Nat.lt_irrefl _)
theorem above_cons {l : News'} {a b : Addr} {o : Obj} (h : ∀ x ∈ l, x.1 < b) (n : a < b) : ∀ x ∈ ((a, o) :: l), x.1 < b := fun x hx => by
  rcases List.mem_cons.mp hx with rfl | hx
  · exact n
  · exact h x hx
theorem above_trans {l : News'} {a b : Addr} (h : ∀ x ∈ l, x.1 < a) (n : a < b) : ∀ x ∈ l, x.1 < b := fun x hx => Nat.lt_trans (h x hx) n
section
variable {G : Gl} {news : News'}
theorem tok_new (kd wo : Str) (kt wt : Tok) (tu : Addr) :
    Con G 476 [.str kd kt, .str wo wt, .ref tu] news 4 40 (fun news' v => ∃ t tp, v = .ref t ∧ news' = (t, instObj 476 tp.td) :: (tp.td, tokD tp kd wo) :: news ∧ tp.atv = .ref tu ∧ (∀ x ∈ news, x.1 < tp.td) ∧ tp.td < t) := by
  walk_at "MINE enterCls"
  k_steps
  all_goals (exact hret _ _ _ _ (by k_asm) (by k_asm) ⟨_, ⟨_, _, _, _, _, _, _, _, _, _, _, _⟩, rfl, rfl, rfl, l1, l2⟩)
theorem rdr_new (tl : Addr) :
    Con G 446 [.ref tl] news 4 40 (fun news' v => ∃ r q pt, v = .ref r ∧ (r, instObj 446 q.dr) ∈ news' ∧ (q.dr, rdD q 0 pt) ∈ news' ∧ q.tl = tl ∧ (∀ x ∈ news, x ∈ news') ∧ (∀ x ∈ news, x.1 < q.dr) ∧ ((news.map (·.1)).Nodup → (news'.map (·.1)).Nodup)) := by
  walk_at "MINE enterCls"
  k_steps
  all_goals (refine hret _ _ _ _ (by k_asm) (by k_asm) ⟨_, ⟨_, _, _, _, _, _, _, _, _, _, _, _⟩, _, rfl, (by k_mem), .tail _ (.tail _ (.tail _ (.head _))), rfl, fun x h => .tail _ (.tail _ (.tail _ (.tail _ h))), l1, fun hn => ?_⟩; exact nodup_above (AllLt.all (by assumption)) (nodup_above (AllLt.all (by assumption)) (nodup_above (above_cons (above_trans l1 l2) l2) (nodup_above l1 hn))))
end
theorem kw_R24_end : True := by
  (k_with "past R24" => skip)
  trivial
end Mine
end
noncomputable section
open PySem PySem.W PySem.Spec PyProof.Rows PySem.Calls PyProof.Rows.LCg
set_option Elab.async false
set_option maxHeartbeats 4000000
set_option maxRecDepth 100000
namespace Mine
theorem off1_of {D : Addr} : ∀ {led : List (Addr × Obj)}, (∀ p ∈ led, p.1 ≠ D) → Off1 D led
  | [], _ => trivial
  | _ :: _, h => ⟨h _ (.head _), off1_of fun q hq => h q (.tail _ hq)⟩
section
variable {prog : Program} {w : World} {A : Around} {E : Value → Shared → Prop} {s : Shared} {h₀ : Heap} {L : Addr} {m : Str → Option Value} {env : Env}
/-- the end of a turn of a block over numbered pairs -/
noncomputable def TokEnd (h₀ : Heap) (L : Addr) (m : Str → Option Value) (s₁ : Shared) (own : List (Addr × Obj)) (rest : Value → List (Addr × Obj) → Prop) (y : Value) (s₂ : Shared) : Prop :=
  ∃ h' tk news', s₂ = { s₁ with heap := h', toks := tk } ∧ Fr h₀ L h' m ∧ News h₀ L h' (own ++ news') ∧ (∀ p ∈ news', ∀ q ∈ own, p.1 ≠ q.1) ∧ rest y news'
/-- what each turn has to show -/
noncomputable def TurnOk (prog : Program) (w : World) (A : Around) (h₀ : Heap) (L : Addr) (m : Str → Option Value) (env : Env) (elt : Expr) (x1 x2 x3 : Str) (scope : Scope) (cl : List (Str × Addr)) (P : Nat → Value → Value → Prop) (J : Nat → List Value → List (Addr × Obj) → Prop) (s : Shared) (n : Nat) : Prop :=
  ∀ i ys led, i < n → J i ys led → ∀ a b : Value, P i a b → ∀ e oe i0 oi C oC D m₂ t h tk (E' : Value → Shared → Prop), NsObj oC m₂ → m₂ x1 = some (.int i t) → m₂ x2 = some a → m₂ x3 = some b → Fr h₀ L h m →
    News h₀ L h ((e, oe) :: (i0, oi) :: (C, oC) :: (D, lst ys) :: led) → (∀ p ∈ led, ∀ q ∈ [(e, oe), (i0, oi), (C, oC), (D, lst ys)], p.1 ≠ q.1) →
    wpAny (model prog w) A (eval elt (compEnvC scope cl C env)) (TokEnd h₀ L m { s with heap := h, toks := tk } [(e, oe), (i0, oi), (C, oC), (D, lst ys)] (fun y led' => J (i + 1) (ys ++ [y]) led')) E' { s with heap := h, toks := tk }
noncomputable def SrcE (prog : Program) (w : World) (A : Around) (h₀ : Heap) (L : Addr) (m : Str → Option Value) (env : Env) (elt : Expr) (x1 x2 x3 : Str) (scope : Scope) (cl : List (Str × Addr)) (P : Nat → Value → Value → Prop) (J : Nat → List Value → List (Addr × Obj) → Prop) (l : Addr) (its : Array Value) (Fin : Shared → List Value → List (Addr × Obj) → Prop) (xv : Value) (s₁ : Shared) : Prop :=
  ∃ e i0 news, xv = .ref e ∧ A.handled = none ∧ IsEnum s₁.heap e i0 0 .none ∧ s₁.heap.IsListIter i0 l 0 ∧ s₁.heap.IsList l its ∧ Fr h₀ L s₁.heap m ∧ News h₀ L s₁.heap news ∧ (∀ p ∈ news, p.1 ≠ e ∧ p.1 ≠ i0) ∧ (l ≠ e ∧ l ≠ i0 ∧ e ≠ i0 ∧ L ≠ e ∧ L ≠ i0) ∧ h₀.get? e = none ∧ h₀.get? i0 = none ∧ its.size ≤ sizeLine ∧ J 0 [] news ∧
    (∀ i ys led, J i ys led → ∃ k, (l, ({ cls := .type "list", data := .seq its k } : Obj)) ∈ led) ∧
    (∀ i ys led, i < its.size → J i ys led → ∃ t a b k, its[i]? = some (.ref t) ∧ (t, ({ cls := .type "tuple", data := .seq #[a, b] k } : Obj)) ∈ led ∧ P i a b) ∧
    ∀ s₂ : Shared, (∃ h, s₂ = { s₁ with heap := h }) → TurnOk prog w A h₀ L m env elt x1 x2 x3 scope cl P J s₂ its.size ∧ ∀ ys led, J its.size ys led → Fin s₂ ys led
theorem comp_enum {elt iter : Expr} {x1 x2 x3 : Str} {p1 p2 p3 tp1 tp2 : Pos} {k1 k2} {scope : Scope} {cl : List (Str × Addr)} {pos : Pos} {Q : Value → Shared → Prop} {P : Nat → Value → Value → Prop} {J : Nat → List Value → List (Addr × Obj) → Prop} {l : Addr} {its : Array Value}
    (_F₀ : Fr h₀ L s.heap m) (hclos : closureFor scope env = pure cl) (hcell : ∀ y ∈ scope.names, y.2 ≠ .cell) (hkind : scope.kind = .function)
    (hnames : ∀ y ∈ scope.names, y.2 = .local → scope.names.lookup y.1 = some .local) (h1 : scope.names.lookup x1 = some .local) (h2 : scope.names.lookup x2 = some .local) (h3 : scope.names.lookup x3 = some .local) (h12 : x1 ≠ x2) (h13 : x1 ≠ x3) (h23 : x2 ≠ x3)
    (h : wpAny (model prog w) A (eval iter env) (SrcE prog w A h₀ L m env elt x1 x2 x3 scope cl P J l its (fun s₂ => FinE h₀ L m s₂ Q)) E s)
    (hs : ∀ x, foldedSetIterable iter env x = pure x := by intro _; rfl) :
    wpAny (model prog w) A (eval (.ListComp elt [⟨.Tuple [.Name x1 p1, .Tuple [.Name x2 p2, .Name x3 p3] k2 tp2] k1 tp1, iter, [], 0⟩] scope pos) env) Q E s := by
  rw [eval_ListComp]
  refine wpAny_comprehension_free (use := none) rfl hs hclos hkind hnames (wpAny_mono h (fun xv s₁ h₁ => ?_) fun _ _ e => e)
  obtain ⟨e, i0, news, rfl, hh, hE, hI, hl, F, N, off, ⟨hle, hli, hei, hLe, hLi⟩, he₀, hi₀, hsz, hJ0, hJl, hJp, R⟩ := h₁
  obtain ⟨turn, fin⟩ := R s₁ ⟨_, rfl⟩
  refine wpAny_pyIter_enum hE ?_
  have W := KTurns.ofWalksU (elts := [.Name x1 p1, .Tuple [.Name x2 p2, .Name x3 p3] k2 tp2]) (k := k1) (pos := tp1) (WalksT.enumerate (prog := prog) (w := w) hh e i0 l hei hle hli its).toU
  have helt : e < s₁.heap.objs.size := Heap.lt_size hE
  have hilt : i0 < s₁.heap.objs.size := by obtain ⟨_, x, _⟩ := hI; exact Heap.lt_size x
  have hllt : l < s₁.heap.objs.size := by obtain ⟨_, x, _⟩ := hl; exact Heap.lt_size x
  refine wpAny_newObj_type (wpAny_newFunctionEnv hcell (by intro y hy; simp at hy) (fun h₁ hns₁ hsb₁ => ?_) hkind)
  dsimp only at hns₁ hsb₁ ⊢
  generalize hH2 : s₁.heap.push { cls := .type "list", dict := none, data := .seq ([] : List Value).toArray } = H2 at hns₁ hsb₁ ⊢
  have hC : H2.objs.size = s₁.heap.objs.size + 1 := by rw [← hH2, Heap.size_push]
  have hDC : s₁.heap.objs.size ≠ H2.objs.size := by rw [hC]; exact Nat.ne_of_lt (Nat.lt_succ_self _)
  have below : ∀ b, b < s₁.heap.objs.size → b ≠ H2.objs.size ∧ b ≠ s₁.heap.objs.size := fun b hb => ⟨by rw [hC]; exact Nat.ne_of_lt (Nat.lt_succ_of_lt hb), Nat.ne_of_lt hb⟩
  have old : ∀ b o, s₁.heap.get? b = some o → h₁.get? b = some o := fun b o e => hsb₁.extBut b o (below b (Heap.lt_size e)).1 (Heap.get?_push_of_some _ (hH2 ▸ Heap.get?_push_of_some _ e))
  have hacc : h₁.get? s₁.heap.objs.size = some (lst []) := hsb₁.extBut _ _ hDC (Heap.get?_push_of_some _ (hH2 ▸ Heap.get?_push_size _ rfl))
  have fresh₀ : ∀ a, s₁.heap.objs.size ≤ a → h₀.get? a = none := fun a ha => by
    cases q : h₀.get? a with
    | none => rfl
    | some o' => exact absurd (Heap.lt_size (F.keep a o' q)) (Nat.not_lt.mpr ha)
  have hD₀ : h₀.get? s₁.heap.objs.size = none := fresh₀ _ (Nat.le_refl _)
  have hC₀ : h₀.get? H2.objs.size = none := fresh₀ _ (by rw [hC]; exact Nat.le_succ _)
  have hLlt : L < s₁.heap.objs.size := F.ns.lt
  have hDL : s₁.heap.objs.size ≠ L := Ne.symm (below L hLlt).2
  have hCL : H2.objs.size ≠ L := Ne.symm (below L hLlt).1
  generalize hDD : s₁.heap.objs.size = D at *
  generalize hCC : H2.objs.size = C at *
  have heC : e ≠ C := (below e helt).1
  have heD : e ≠ D := (below e helt).2
  have hiC : i0 ≠ C := (below i0 hilt).1
  have hiD : i0 ≠ D := (below i0 hilt).2
  have hlC : l ≠ C := (below l hllt).1
  have hlD : l ≠ D := (below l hllt).2
  have off₀ : ∀ p ∈ news, p.1 ≠ e ∧ p.1 ≠ i0 ∧ p.1 ≠ C ∧ p.1 ≠ D := fun p hp => by
    have hp' : p.1 < D := by rw [← hDD]; exact Heap.lt_size (N p hp).1
    exact ⟨(off p hp).1, (off p hp).2, (below _ hp').1, (below _ hp').2⟩
  have frK : ∀ {h h' : Heap}, Fr h₀ L h m → (∀ b o, b ∉ [e, i0] → h.get? b = some o → h'.get? b = some o) → Fr h₀ L h' m := fun {h h'} F hk =>
    ⟨F.ns.at' fun o x => hk L o (by simp [hLe, hLi]) x, fun b o x => hk b o (fun hm => by
      rcases List.mem_cons.mp hm with rfl | hm
      · rw [he₀] at x; cases x
      · rw [List.mem_singleton.mp hm, hi₀] at x; cases x) (F.keep b o x), F.above⟩
  have loop : ∀ s₃ : Shared, s₃ = { s₁ with heap := h₁, toks := s₁.toks + ([] : List (Str × Value)).length } →
      codeAny (model prog w) A (.compLoop (.ListComp elt [⟨.Tuple [.Name x1 p1, .Tuple [.Name x2 p2, .Name x3 p3] k2 tp2] k1 tp1, iter, [], 0⟩] scope pos) 0 (.ref e) (.ref D) (compEnvC scope cl C env))
        (compPost (model prog w) A E none Q (.ref D) C) s₃ := by
    rintro s₃ rfl
    refine LCp.codeAny_compLoop_pair
      (fun k s' => ∃ h' tk i ys m' led, s' = { s₁ with heap := h', toks := tk } ∧ i ≤ its.size ∧ k = its.size + 1 - i ∧ ys.length = i ∧ ((∃ old, IsEnum h' e i0 i old) ∧ h'.IsListIter i0 l i ∧ h'.IsList l its) ∧ Fr h₀ L h' m ∧ h'.Ns C m' ∧ News h₀ L h' ((D, lst ys) :: led) ∧
        (∀ p ∈ led, p.1 ≠ e ∧ p.1 ≠ i0 ∧ p.1 ≠ C ∧ p.1 ≠ D) ∧ J i ys led) ?_ (its.size + 1)
      ⟨h₁, _, 0, [], _, news, rfl, Nat.zero_le _, rfl, rfl, ⟨⟨_, old _ _ hE⟩, hI.at fun o x => old _ o x, hl.at fun o x => old _ o x⟩, F.keeps old, hns₁, fun p hp => ?_, off₀, hJ0⟩
    · rintro k s' ⟨h', tk, i, ys, m', led, rfl, hi, rfl, hyl, hst', F', hn', N', off', hJ⟩
      by_cases hlt : i < its.size
      · refine W.item i _ _ _ hlt hst' fun v h₂ tk₂ hMd hk₂ => ?_
        refine W.go i v _ _ _ hMd fun h₃ hP hst₃ hk₃ => ?_
        dsimp only at hk₃ ⊢
        obtain ⟨T, vals, rfl, ⟨tt, xx, hxx, rfl⟩, hT⟩ := hP
        obtain ⟨t, a, b, kk, hit, hmt, hPab⟩ := hJp i ys led hlt hJ
        rw [hit] at hxx
        obtain rfl : Value.ref t = xx := Option.some.inj hxx
        have hk23 : ∀ b o, b ∉ [e, i0] → h'.get? b = some o → h₃.get? b = some o := fun b o hb x => hk₃ b o hb (hk₂ b o hb x)
        have N₃ : News h₀ L h₃ ((D, lst ys) :: led) := fun p hp => ⟨hk23 _ _ (by
          rcases List.mem_cons.mp hp with rfl | hp
          · simp [Ne.symm heD, Ne.symm hiD]
          · simp [(off' p hp).1, (off' p hp).2.1]) (N' p hp).1, (N' p hp).2⟩
        refine assign_Tuple_tuple hh (show IsTup h₃ T _ from hT) rfl rfl fun h₅ he => ?_
        have he' : ∀ b o, h₃.get? b = some o → h₅.get? b = some o := fun b o x => he b o (Nat.ne_of_lt (Heap.lt_size x)) x
        have hn₅ := (hn'.at' fun o x => hk23 _ o (by simp [Ne.symm heC, Ne.symm hiC]) x).at' fun o x => he' _ o x
        refine assignInOrder_cons (wpAny_assign_Name (wpAny_storeName_local (lookup_relabel_local h1) hn₅ (fun h₆ hn₆ hs₆ => ?_) (by simp [compEnvC, relabel, hkind])))
        have N₅ : News h₀ L h₅ ((D, lst ys) :: led) := fun p hp => ⟨he' _ _ (N₃ p hp).1, (N₃ p hp).2⟩
        have offC : ∀ p ∈ (D, lst ys) :: led, p.1 ≠ C := fun p hp => by
          rcases List.mem_cons.mp hp with rfl | hp
          · exact hDC
          · exact (off' p hp).2.2.1
        have N₆ : News h₀ L h₆ ((D, lst ys) :: led) := fun p hp => ⟨hs₆.extBut _ _ (offC p hp) (N₅ p hp).1, (N₅ p hp).2⟩
        refine assignInOrder_cons ?_
        show wpAny (model prog w) A (assign (.Tuple [.Name x2 p2, .Name x3 p3] k2 tp2) (compEnvC scope cl C env) (.ref t)) _ _ _
        refine assign_Tuple_tuple hh (show IsTup h₆ t _ from ⟨_, (N₆ _ (List.mem_cons_of_mem _ hmt)).1, rfl, _, rfl⟩) rfl rfl fun h₇ he₇ => ?_
        have he₇' : ∀ b o, h₆.get? b = some o → h₇.get? b = some o := fun b o x => he₇ b o (Nat.ne_of_lt (Heap.lt_size x)) x
        refine assignInOrder_cons (wpAny_assign_Name (wpAny_storeName_local (lookup_relabel_local h2) (hn₆.at' fun o x => he₇' _ o x) (fun h₈ hn₈ hs₈ => ?_) (by simp [compEnvC, relabel, hkind])))
        refine assignInOrder_cons (wpAny_assign_Name (wpAny_storeName_local (lookup_relabel_local h3) hn₈ (fun h₉ hn₉ hs₉ => ?_) (by simp [compEnvC, relabel, hkind])))
        refine assignInOrder_nil (assignInOrder_nil ?_)
        have up : ∀ b o, b ≠ C → h₃.get? b = some o → h₉.get? b = some o := fun b o hb x => hs₉.extBut b o hb (hs₈.extBut b o hb (he₇' b o (hs₆.extBut b o hb (he' b o x))))
        obtain ⟨⟨oldv, hE₃⟩, ⟨oi, hoi, hoic, hoid⟩, hl₃⟩ := hst₃
        have hE₃' : ∃ oe : Obj, h₃.get? e = some oe ∧ ∀ hh : Heap, hh.get? e = some oe → IsEnum hh e i0 ((i + 1 : Nat) : Int) oldv := ⟨_, hE₃, fun _ x => x⟩
        obtain ⟨oe, hoe, hoeE⟩ := hE₃'
        obtain ⟨oC, hoC, hoCn⟩ := ns_obj hn₉
        have F₉ : Fr h₀ L h₉ m := (((((frK F' hk23).keeps he').change hs₆ hCL hC₀).keeps he₇').change hs₈ hCL hC₀).change hs₉ hCL hC₀
        have N₉ : News h₀ L h₉ ((e, oe) :: (i0, oi) :: (C, oC) :: (D, lst ys) :: led) := fun p hp => by
          rcases List.mem_cons.mp hp with rfl | hp
          · exact ⟨up _ _ heC hoe, Ne.symm hLe, he₀⟩
          · rcases List.mem_cons.mp hp with rfl | hp
            · exact ⟨up _ _ hiC hoi, Ne.symm hLi, hi₀⟩
            · rcases List.mem_cons.mp hp with rfl | hp
              · exact ⟨hoC, hCL, hC₀⟩
              · exact ⟨up _ _ (offC p hp) (N₃ p hp).1, (N₃ p hp).2⟩
        refine wpAny_mono (turn i ys led hlt hJ a b hPab e oe i0 oi C oC D _ _ h₉ _ _ hoCn (by simp [h12, h13]; rfl) (by simp [h23]) (by simp) F₉ N₉ (fun p hp q hq => ?_)) (fun y s₄ h₄ => ?_) fun _ _ e => e
        · have z := off' p hp
          rcases List.mem_cons.mp hq with rfl | hq
          · exact z.1
          · rcases List.mem_cons.mp hq with rfl | hq
            · exact z.2.1
            · rcases List.mem_cons.mp hq with rfl | hq
              · exact z.2.2.1
              · rw [List.mem_singleton.mp hq]; exact z.2.2.2
        · obtain ⟨h₄, tk₄, led₄, rfl, F₄, N₄, off₄, hJ₄⟩ := h₄
          have ze := (N₄ (e, oe) (.head _)).1
          have zi := (N₄ (i0, oi) (.tail _ (.head _))).1
          have zC := (N₄ (C, oC) (.tail _ (.tail _ (.head _)))).1
          have zD := (N₄ (D, lst ys) (.tail _ (.tail _ (.tail _ (.head _))))).1
          have N₄' : News h₀ L h₄ led₄ := fun p hp => N₄ p (.tail _ (.tail _ (.tail _ (.tail _ hp))))
          obtain ⟨kl, hkl⟩ := hJl _ _ _ hJ₄
          refine append_at (hsz := by show ys.toArray.size ≤ sizeLine; rw [List.size_toArray, hyl]; exact Nat.le_trans hi hsz) zD fun h₅ hs₅ hD₅ => ?_
          have off4 : ∀ p ∈ led₄, p.1 ≠ e ∧ p.1 ≠ i0 ∧ p.1 ≠ C ∧ p.1 ≠ D := fun p hp => ⟨off₄ p hp _ (.head _), off₄ p hp _ (.tail _ (.head _)), off₄ p hp _ (.tail _ (.tail _ (.head _))), off₄ p hp _ (.tail _ (.tail _ (.tail _ (.head _))))⟩
          refine ⟨its.size + 1 - (i + 1), by omega, h₅, tk₄, i + 1, ys ++ [y], _, led₄, rfl, hlt, rfl, by rw [List.length_append, List.length_singleton, hyl],
            ⟨⟨oldv, hoeE _ (hs₅.extBut _ _ heD ze)⟩, ⟨oi, hs₅.extBut _ _ hiD zi, hoic, hoid⟩, ⟨_, hs₅.extBut _ _ hlD (N₄' _ hkl).1, rfl, _, rfl⟩⟩, F₄.change hs₅ hDL hD₀, (hoCn.ns zC).sameBut hs₅ (Ne.symm hDC), fun p hp => ?_, off4, hJ₄⟩
          rcases List.mem_cons.mp hp with rfl | hp
          · exact ⟨hD₅.trans (congrArg some (lst_snoc ys y)), hDL, hD₀⟩
          · exact ⟨hs₅.extBut _ _ (off4 p hp).2.2.2 (N₄' p hp).1, (N₄' p hp).2⟩
      · obtain rfl : i = its.size := Nat.le_antisymm hi (Nat.not_lt.mp hlt)
        refine W.done _ _ _ hst' fun h₂ tk₂ hk₂ => ?_
        have N₂ : News h₀ L h₂ ((D, lst ys) :: led) := fun p hp => ⟨hk₂ _ _ (by
          rcases List.mem_cons.mp hp with rfl | hp
          · simp [Ne.symm heD, Ne.symm hiD]
          · simp [(off' p hp).1, (off' p hp).2.1]) (N' p hp).1, (N' p hp).2⟩
        refine ⟨_, hn'.at' fun o x => hk₂ _ o (by simp [Ne.symm heC, Ne.symm hiC]) x, fun h'' hs'' => ?_⟩
        refine fin ys led hJ D h'' tk₂ ((frK F' hk₂).change hs'' hCL hC₀) (fun p hp => ⟨hs''.extBut _ _ ?_ (N₂ p hp).1, (N₂ p hp).2⟩) ?_
        · rcases List.mem_cons.mp hp with rfl | hp
          · exact hDC
          · exact (off' p hp).2.2.1
        · exact off1_of fun p hp => (off' p hp).2.2.2
    · rcases List.mem_cons.mp hp with rfl | hp
      · exact ⟨hacc, hDL, hD₀⟩
      · exact ⟨old _ _ (N p hp).1, (N p hp).2⟩
  exact codeAny_compStart_list (loop _ rfl) (wpAny_pyIter_enum (old _ _ hE) (loop _ rfl))
theorem enum_src {elt : Expr} {x1 x2 x3 : Str} {scope : Scope} {cl : List (Str × Addr)} {P : Nat → Value → Value → Prop} {J : Nat → List Value → List (Addr × Obj) → Prop} {l : Addr} {its : Array Value} {k : Nat} {Fin : Shared → List Value → List (Addr × Obj) → Prop} {news : List (Addr × Obj)}
    (hh : A.handled = none) (F : Fr h₀ L s.heap m) (N : News h₀ L s.heap news) (hm : (l, ({ cls := .type "list", data := .seq its k } : Obj)) ∈ news) (hsz : its.size ≤ sizeLine) (hJ0 : J 0 [] news)
    (hJl : ∀ i ys led, J i ys led → ∃ k, (l, ({ cls := .type "list", data := .seq its k } : Obj)) ∈ led)
    (hJp : ∀ i ys led, i < its.size → J i ys led → ∃ t a b k, its[i]? = some (.ref t) ∧ (t, ({ cls := .type "tuple", data := .seq #[a, b] k } : Obj)) ∈ led ∧ P i a b)
    (R : ∀ s₂ : Shared, (∃ h, s₂ = { s with heap := h }) → TurnOk prog w A h₀ L m env elt x1 x2 x3 scope cl P J s₂ its.size ∧ ∀ ys led, J its.size ys led → Fin s₂ ys led) :
    wpAny (model prog w) A (call (.type "enumerate") [.ref l]) (SrcE prog w A h₀ L m env elt x1 x2 x3 scope cl P J l its Fin) E s := by
  have hl : s.heap.IsList l its := ⟨_, (N _ hm).1, rfl, _, rfl⟩
  have hlt : l < s.heap.objs.size := Heap.lt_size (N _ hm).1
  have hLs : L < s.heap.objs.size := F.ns.lt
  have fresh₀ : ∀ a, s.heap.objs.size ≤ a → h₀.get? a = none := fun a ha => by
    cases q : h₀.get? a with
    | none => rfl
    | some o' => exact absurd (Heap.lt_size (F.keep a o' q)) (Nat.not_lt.mpr ha)
  refine call_enumerate_list hl fun h' hE hI hsz' hk => ?_
  refine ⟨s.heap.objs.size + 1, s.heap.objs.size, news, rfl, hh, hE, hI, hl.at fun o e => hk l o e, F.keeps hk, N.grown hk, fun p hp => ?_, ⟨?_, ?_, ?_, ?_, ?_⟩, fresh₀ _ (Nat.le_succ _), fresh₀ _ (Nat.le_refl _), hsz, hJ0, hJl, hJp, fun s₂ ⟨h, e⟩ => R s₂ ⟨h, e⟩⟩
  · have := Heap.lt_size (N p hp).1
    exact ⟨Nat.ne_of_lt (Nat.lt_succ_of_lt this), Nat.ne_of_lt this⟩
  · exact Nat.ne_of_lt (Nat.lt_succ_of_lt hlt)
  · exact Nat.ne_of_lt hlt
  · exact Nat.succ_ne_self _
  · exact Nat.ne_of_lt (Nat.lt_succ_of_lt hLs)
  · exact Nat.ne_of_lt hLs
end
end Mine
end
noncomputable section
open PySem PySem.W PyProof.Rows PySem.Calls
set_option Elab.async false
set_option maxRecDepth 100000
set_option maxHeartbeats 4000000
namespace Mine
noncomputable abbrev tupK (its : Array Value) (n : Nat) : Obj := { cls := .type "tuple", data := .seq its n }
/-- a list of pairs of texts -/
structure TokList (news : News') (l : Addr) (ts : Toks) : Prop where
  ex : ∃ (its : Array Value) (k : Nat), (l, lstO its k) ∈ news ∧ its.size = ts.length ∧ ∀ (i : Nat) (k w : Str), ts[i]? = some (k, w) → ∃ (t : Addr) (kt wt : Tok) (n : Nat), its[i]? = some (Value.ref t) ∧ (t, tupK #[.str k kt, .str w wt] n) ∈ news
/-- the tokens of a list, with their places -/
noncomputable def AtsOk (news : News') (ts : Toks) (ys : List Value) : Prop :=
  ∀ (j : Nat) (k w : Str), ts[j]? = some (k, w) → ∃ (t : Addr) (tp : TP) (a : Addr) (n : Nat) (u v : Tok), ys[j]? = some (Value.ref t) ∧ TokAt news t tp k w ∧ tp.atv = .ref a ∧ (a, tupK #[.int ((j : Int) + 1) u, .int 12 v] n) ∈ news
noncomputable def JTok (news : News') (ts : Toks) (i : Nat) (ys : List Value) (led : News') : Prop :=
  (∀ x ∈ news, x ∈ led) ∧ (led.map (·.1)).Nodup ∧ ys.length = i ∧ AtsOk led (ts.take i) ys
noncomputable def PTok (ts : Toks) (i : Nat) (a b : Value) : Prop := ∃ k w kt wt, ts[i]? = some (k, w) ∧ a = .str k kt ∧ b = .str w wt
theorem AtsOk.mono {a b : News'} {ts : Toks} {ys : List Value} (h : AtsOk a ts ys) (s : ∀ x ∈ a, x ∈ b) : AtsOk b ts ys := fun j k w e => by
  obtain ⟨t, tp, x, n, u, v, h1, h2, h3, h4⟩ := h j k w e
  exact ⟨t, tp, x, n, u, v, h1, ⟨s _ h2.inst, s _ h2.dict⟩, h3, s _ h4⟩
theorem AtsOk.snoc {led : News'} {ts : Toks} {i : Nat} {ys : List Value} (h : AtsOk led (ts.take i) ys) (hl : ys.length = i) {k w : Str} (e : ts[i]? = some (k, w)) {t : Addr} {tp : TP} {a : Addr} {n : Nat} {u v : Tok} (h2 : TokAt led t tp k w) (h3 : tp.atv = .ref a) (h4 : (a, tupK #[.int ((i : Int) + 1) u, .int 12 v] n) ∈ led) :
    AtsOk led (ts.take (i + 1)) (ys ++ [.ref t]) := fun j k' w' e' => by
  have hlt := (List.getElem?_eq_some_iff.mp e).1
  rw [List.take_add_one, e] at e'
  by_cases hj : j < i
  · rw [List.getElem?_append_left (by rw [List.length_take]; omega)] at e'
    obtain ⟨t', tp', a', n', u', v', q1, q2, q3, q4⟩ := h j k' w' e'
    exact ⟨t', tp', a', n', u', v', by rw [List.getElem?_append_left (by omega)]; exact q1, q2, q3, q4⟩
  · have hl' : (ts.take i).length = i := by rw [List.length_take]; omega
    rw [List.getElem?_append_right (by omega), hl'] at e'
    have hj' : j - i < 1 := (List.getElem?_eq_some_iff.mp e').1
    obtain rfl : j = i := by omega
    rw [Nat.sub_self] at e'
    obtain ⟨rfl, rfl⟩ : k = k' ∧ w = w' := by simpa using e'
    exact ⟨t, tp, a, n, u, v, by rw [List.getElem?_append_right (by omega), hl, Nat.sub_self]; rfl, h2, h3, h4⟩
theorem tok_end {h₀ : Heap} {L : Addr} {m : Str → Option Value} {s₁ : Shared} {news : News'} {ts : Toks} {i : Nat} {ys : List Value} {led : News'} {e i0 C D Dt t : Addr} {oe oi oC : Obj} {u v : Tok} {nn : Nat} {tp : TP} {k w : Str} {h : Heap} {tk : Nat}
    (hJ : JTok news ts i ys led) (ht : ts[i]? = some (k, w)) (off : ∀ p ∈ led, ∀ q ∈ [(e, oe), (i0, oi), (C, oC), (D, LCg.lst ys)], p.1 ≠ q.1) (l1 : e < Dt ∧ i0 < Dt ∧ C < Dt ∧ D < Dt ∧ AllLt Dt led)
    (l9 : ∀ x ∈ (Dt, tupK #[.int ((i : Int) + 1) u, .int 12 v] nn) :: (e, oe) :: (i0, oi) :: (C, oC) :: (D, LCg.lst ys) :: led, x.1 < tp.td) (n9 : tp.td < t) (z9 : tp.atv = .ref Dt) (F : Fr h₀ L h m)
    (N : News h₀ L h ((t, instObj 476 tp.td) :: (tp.td, tokD tp k w) :: (Dt, tupK #[.int ((i : Int) + 1) u, .int 12 v] nn) :: (e, oe) :: (i0, oi) :: (C, oC) :: (D, LCg.lst ys) :: led)) :
    TokEnd h₀ L m s₁ [(e, oe), (i0, oi), (C, oC), (D, LCg.lst ys)] (fun y led' => JTok news ts (i + 1) (ys ++ [y]) led') (.ref t) { s₁ with heap := h, toks := tk } := by
  obtain ⟨a1, a2, a3, a4⟩ := hJ
  obtain ⟨b1, b2, b3, b4, b5⟩ := l1
  have d1 : Dt < tp.td := l9 _ (.head _)
  have own : ∀ q ∈ [(e, oe), (i0, oi), (C, oC), (D, LCg.lst ys)], q.1 < Dt := fun q hq => by
    rcases List.mem_cons.mp hq with rfl | hq
    · exact b1
    · rcases List.mem_cons.mp hq with rfl | hq
      · exact b2
      · rcases List.mem_cons.mp hq with rfl | hq
        · exact b3
        · rw [List.mem_singleton.mp hq]; exact b4
  refine ⟨h, tk, (t, instObj 476 tp.td) :: (tp.td, tokD tp k w) :: (Dt, tupK #[.int ((i : Int) + 1) u, .int 12 v] nn) :: led, rfl, F, fun p hp => N p ?_, fun p hp q hq => ?_, fun x hx => .tail _ (.tail _ (.tail _ (a1 x hx))), ?_, ?_, ?_⟩
  · rcases List.mem_append.mp hp with hp | hp
    · refine .tail _ (.tail _ (.tail _ ?_))
      rcases List.mem_cons.mp hp with rfl | hp
      · exact .head _
      · rcases List.mem_cons.mp hp with rfl | hp
        · exact .tail _ (.head _)
        · rcases List.mem_cons.mp hp with rfl | hp
          · exact .tail _ (.tail _ (.head _))
          · rw [List.mem_singleton.mp hp]; exact .tail _ (.tail _ (.tail _ (.head _)))
    · rcases List.mem_cons.mp hp with rfl | hp
      · exact .head _
      · rcases List.mem_cons.mp hp with rfl | hp
        · exact .tail _ (.head _)
        · rcases List.mem_cons.mp hp with rfl | hp
          · exact .tail _ (.tail _ (.head _))
          · exact .tail _ (.tail _ (.tail _ (.tail _ (.tail _ (.tail _ (.tail _ hp))))))
  · have hq' := own q hq
    rcases List.mem_cons.mp hp with rfl | hp
    · exact Nat.ne_of_gt (Nat.lt_trans hq' (Nat.lt_trans d1 n9))
    · rcases List.mem_cons.mp hp with rfl | hp
      · exact Nat.ne_of_gt (Nat.lt_trans hq' d1)
      · rcases List.mem_cons.mp hp with rfl | hp
        · exact Nat.ne_of_gt hq'
        · exact off p hp q hq
  · have c1 : ∀ x ∈ led, x.1 < Dt := AllLt.all b5
    have c2 : ∀ x ∈ (Dt, tupK #[.int ((i : Int) + 1) u, .int 12 v] nn) :: led, x.1 < tp.td := above_cons (above_trans c1 d1) d1
    exact nodup_above (above_cons (above_trans c2 n9) n9) (nodup_above c2 (nodup_above c1 a2))
  · rw [List.length_append, a3]; rfl
  · exact AtsOk.snoc (a4.mono fun x hx => .tail _ (.tail _ (.tail _ hx))) a3 ht ⟨.head _, .tail _ (.head _)⟩ z9 (.tail _ (.tail _ (.head _)))
theorem nodup_off {l : News'} {a : Addr} {o : Obj} (h : LCg.Off1 a l) (n : (l.map (·.1)).Nodup) : (((a, o) :: l).map (·.1)).Nodup := by
  rw [List.map_cons, List.nodup_cons]
  refine ⟨fun hm => ?_, n⟩
  obtain ⟨x, hx, e⟩ := List.mem_map.mp hm
  clear n
  induction l with
  | nil => cases hx
  | cons p r ih =>
    rcases List.mem_cons.mp hx with rfl | hx
    · exact h.1 e
    · exact ih h.2 (List.mem_map.mpr ⟨x, hx, e⟩) hx
theorem TabOk.mono {a b : News'} (h : TabOk a) (s : ∀ x ∈ a, x ∈ b) : TabOk b := by
  obtain ⟨ps, m, h⟩ := h
  exact ⟨ps, s _ m, h⟩
/-- what _law_reader hands back -/
noncomputable def NewRdr (news : News') (ts : Toks) (news' : News') (v : Value) : Prop :=
  ∃ (r : Addr) (q : RP) (pt : Tok) (ys : List Value), v = .ref r ∧ RS news' r q ts 0 pt ∧ (∀ x ∈ news, x ∈ news') ∧ (∀ x ∈ news, x.1 < q.dr) ∧ (q.tl, LCg.lst ys) ∈ news' ∧ AtsOk news' ts ys
theorem newRdr_of {news led news' : News'} {ts : Toks} {n : Nat} {ys : List Value} {D r : Addr} {q : RP} {pt : Tok} (hn : n = ts.length) (hlen : ts.length < 1024) (hT : TabOk news) (hJ : JTok news ts n ys led) (o : LCg.Off1 D led)
    (ri : (r, instObj 446 q.dr) ∈ news') (rd : (q.dr, rdD q 0 pt) ∈ news') (rl : q.tl = D) (rs : ∀ x ∈ (D, LCg.lst ys) :: led, x ∈ news') (l9 : ∀ x ∈ (D, LCg.lst ys) :: led, x.1 < q.dr)
    (nd : (((D, LCg.lst ys) :: led).map (·.1)).Nodup → (news'.map (·.1)).Nodup) : NewRdr news ts news' (.ref r) := by
  subst hn
  obtain ⟨a1, a2, a3, a4⟩ := hJ
  rw [List.take_length] at a4
  have hl : (q.tl, LCg.lst ys) ∈ news' := by rw [rl]; exact rs _ (.head _)
  have hat := a4.mono fun x hx => rs x (.tail _ hx)
  refine ⟨r, q, pt, ys, rfl, ⟨ri, rd, ⟨ys.toArray, ys.length, hl, by rw [List.size_toArray, a3], fun i k w e => ?_⟩, nd (nodup_off o a2), by omega, Nat.zero_le _, hT.mono fun x hx => rs x (.tail _ (a1 x hx))⟩, fun x hx => rs x (.tail _ (a1 x hx)), fun x hx => l9 x (.tail _ (a1 x hx)), hl, hat⟩
  obtain ⟨t, tp, _, _, _, _, h1, h2, _, _⟩ := hat i k w e
  exact ⟨t, tp, by rw [List.getElem?_toArray]; exact h1, h2⟩
section
variable {G : Gl} {news : News'} {ts : Toks} {l : Addr}
theorem kw_R25_1 : True := by
  (k_with "eval ListComp" => ((fail_if_success k_extra "past R25"); ((k_here; k_dflt (refine' comp_enum (J := JTok news ts) (P := PTok ts) (l := l) (its := its0) ?c0 ?c1 ?c2 ?c3 ?c4 ?c5 ?c6 ?c7 ?c8 ?c9 ?cA ?_; (case c0 => k_asm); (case c1 => with_unfolding_all rfl); (case c2 => decide); (case c3 => rfl); (case c4 => decide); (case c5 => rfl); (case c6 => rfl); (case c7 => rfl); (case c8 => decide); (case c9 => decide); (case cA => decide))))))
  (k_with "call type:enumerate" => ((fail_if_success k_extra "past R25"); ((k_here; k_dflt (refine' enum_src ?e1 ?e2 ?e3 ?e4 ?e5 ?e6 ?e7 ?e8 ?_; (case e1 => rfl); (case e2 => k_asm); (case e3 => k_asm); (case e4 => exact hm0); (case e5 => exact hz0); (case e6 => exact hJ0); (case e7 => exact hJl0); (case e8 => exact hJp0)); (refine fun s₂ ⟨g₂, e₂⟩ => ?_); subst e₂; refine ⟨?_, ?_⟩))))
  (k_with "TurnOk" => ((fail_if_success k_extra "past R25"); ((intro i' ys' led' hi' hJ' a' b' hP' e' oe' i0' oi' C' oC' D' m' t' h' tk' E' hC' hx1' hx2' hx3' F' N' off'; obtain ⟨k', w', kt', wt', ht', ha', hb'⟩ := hP'; subst ha' hb'))))
  trivial
theorem lr_c (T : TokList news l ts) (hn : (news.map (·.1)).Nodup) (hlen : ts.length < 1024) (hT : TabOk news) :
    Con G 509 [.ref l] news 12 100 (fun news' v => NewRdr news ts news' v) := by
  obtain ⟨its0, kk0, hm0, hs0, hp0⟩ := T.ex
  have hz0 : its0.size ≤ sizeLine := Nat.le_trans (by omega : its0.size ≤ 1024) (by decide)
  have hJ0 : JTok news ts 0 [] news := ⟨fun _ h => h, hn, rfl, fun j k w e => by simp at e⟩
  have hJl0 : ∀ i ys led, JTok news ts i ys led → ∃ k, (l, ({ cls := .type "list", data := .seq its0 k } : Obj)) ∈ led := fun i ys led h => ⟨kk0, h.1 _ hm0⟩
  have hJp0 : ∀ i ys led, i < its0.size → JTok news ts i ys led → ∃ t a b k, its0[i]? = some (.ref t) ∧ (t, ({ cls := .type "tuple", data := .seq #[a, b] k } : Obj)) ∈ led ∧ PTok ts i a b := fun i ys led hi h => by
    obtain ⟨⟨k, w⟩, e⟩ : ∃ x, ts[i]? = some x := ⟨_, List.getElem?_eq_getElem (by omega)⟩
    obtain ⟨t, kt, wt, n, h1, h2⟩ := hp0 i k w e
    exact ⟨t, _, _, n, h1, h.1 _ h2, k, w, kt, wt, e, rfl, rfl⟩
  walk_at "MINE enter"
  rw [sw_enumerate]
  k_steps
  · exact tok_end (by assumption) (by assumption) (by assumption) (by assumption) (by assumption) (by assumption) (by assumption) F9 N9
  · exact hret _ _ _ _ (by k_asm) (by k_asm) (newRdr_of hs0 hlen hT (by assumption) (by assumption) ri9 rd9 rl9 rs9 l9 nd9)
end
theorem kw_R25_end : True := by
  (k_with "past R25" => skip)
  trivial
end Mine
end
noncomputable section
open PySem PySem.W PyProof.Rows PySem.Calls
set_option Elab.async false
set_option maxRecDepth 100000
set_option maxHeartbeats 4000000
namespace Mine
theorem compEnd_mid {h₀ : Heap} {L I C D T : Addr} {m : Str → Option Value} {s₁ : Shared} {oI oC oD oT : Obj} {S : News' → Prop} {rest : Value → News' → Prop} {y : Value} {h' : Heap} {tk : Nat} {r : News'} {X : Prop}
    (F : Fr h₀ L h' m) (N : News h₀ L h' ((T, oT) :: (I, oI) :: (C, oC) :: (D, oD) :: r)) (l : I < T ∧ C < T ∧ D < T ∧ X) (off : LCg.Off3 I C D r) (hS : S ((T, oT) :: r)) (hr : rest y ((T, oT) :: r)) :
    LCg.CompEnd h₀ L m s₁ I oI C oC D oD S rest y { s₁ with heap := h', toks := tk } := by
  refine ⟨h', tk, (T, oT) :: r, rfl, F, fun p hp => N p ?_, ⟨⟨Nat.ne_of_gt l.1, Nat.ne_of_gt l.2.1, Nat.ne_of_gt l.2.2.1⟩, off⟩, hS, hr⟩
  rcases List.mem_cons.mp hp with rfl | hp
  · exact .tail _ (.head _)
  · rcases List.mem_cons.mp hp with rfl | hp
    · exact .tail _ (.tail _ (.head _))
    · rcases List.mem_cons.mp hp with rfl | hp
      · exact .tail _ (.tail _ (.tail _ (.head _)))
      · rcases List.mem_cons.mp hp with rfl | hp
        · exact .head _
        · exact .tail _ (.tail _ (.tail _ (.tail _ hp)))
theorem kw_R26_1 : True := by
  (k_with "CompEnd" => ((fail_if_success k_extra "past R26"); ((refine' compEnd_mid ?a1 ?a2 ?a3 ?a4 ?a5 ?_; (case a1 => k_asm); (case a2 => k_asm); (case a3 => assumption); (case a4 => assumption); (case a5 => exact Or.inr ⟨_, by k_mem, rfl, _, rfl⟩)))))
  trivial
theorem nodup_turn {r : News'} {I C D T : Addr} {o : Obj} (l : I < T ∧ C < T ∧ D < T ∧ AllLt T r) (n : (r.map (·.1)).Nodup) : (((T, o) :: r).map (·.1)).Nodup := nodup_above (AllLt.all l.2.2.2) n
theorem off1_mem {a : Addr} {l : News'} (h : LCg.Off1 a l) : ∀ x ∈ l, x.1 ≠ a := by
  induction l with
  | nil => intro x hx; cases hx
  | cons p r ih =>
    intro x hx
    rcases List.mem_cons.mp hx with rfl | hx
    · exact h.1
    · exact ih h.2 x hx
/-- a new list of pairs of texts -/
noncomputable def NewTL (news : News') (ts : Toks) (news' : News') (v : Value) : Prop :=
  ∃ l, v = .ref l ∧ TokList news' l ts ∧ (∀ x ∈ news, x ∈ news') ∧ (∀ x ∈ news, x.1 ≠ l) ∧ ((news.map (·.1)).Nodup → (news'.map (·.1)).Nodup)
theorem con_newtl {G : Gl} {f : Addr} {vs : List Value} {news : News'} {D U : Nat}
    {dp un : Nat} {gd : Option (List Code)} {cn : Str} {cs : Scope} {a : Addr} {ccd : Value} {cl : List (Str × Addr)} {outer : List Env} {A₀ : Around} {base h₀ : Heap} {L : Addr} {m : Str → Option Value} {s : Shared} {Q E : Value → Shared → Prop} {ts : Toks}
    (C : Con G f vs news D U (fun n v => NewTL news ts n v)) (B : Below A₀ base outer h₀) (F : Fr h₀ L s.heap m) (X : (KN G.w.params).In h₀) (N : News h₀ L s.heap news) (T : Top topProg G.loose G.mean G.mg G.mb h₀) (hk : cs.kind = .function) (hd : dp + D < recursionLimit) (hu : un + U < cLine)
    (ret : ∀ l n' h' tk', Fr h₀ L h' m → News h₀ L h' n' → TokList n' l ts → (∀ x ∈ news, x ∈ n') → ((news.map (·.1)).Nodup → (n'.map (·.1)).Nodup) → Q (.ref l) { s with heap := h', toks := tk' }) : wpAny (model PySem.Challenge.rw_qd0103_01.prog G.w) (ktrTop dp un gd cn cs L a ccd cl outer) (call (.ref f) vs) Q E s :=
  con_use C B F X N T hk hd hu fun _ _ h tk F' N' p => by obtain ⟨l, rfl, T', s', _, nd⟩ := p; exact ret l _ _ _ F' N' T' s' nd
theorem kw_R26_2 : True := by
  (k_with "MINE nod" => ((fail_if_success k_extra "past R26"); (first
  | assumption
  | (refine' nodup_off ?o9 ?n9; (case o9 => assumption); (case n9 => walk_at "MINE nod"))
  | (refine' nodup_turn ?o9 ?n9; (case o9 => assumption); (case n9 => walk_at "MINE nod"))
  | (refine' nodup_above ?o9 ?n9; (case o9 => first | assumption | exact AllLt.all (by assumption)); (case n9 => walk_at "MINE nod")))))
  (k_with "MINE toks" => ((fail_if_success k_extra "past R26"); (first
  | (simp only [List.getElem?_nil, reduceCtorEq] at e; done)
  | (rcases i with _ | i; (simp only [List.getElem?_cons_zero, Option.some.injEq, Prod.mk.injEq] at e; obtain ⟨rfl, rfl⟩ := e; exact ⟨_, _, _, _, rfl, by k_mem⟩); (simp only [List.getElem?_cons_succ] at e; walk_at "MINE toks")))))
  trivial
theorem newTL_of {news rest : News'} {ts : Toks} {l : Addr} {its : Array Value} {k : Nat} (off : LCg.Off1 l rest) (hs : its.size = ts.length) (hp : ∀ (i : Nat) (k w : Str), ts[i]? = some (k, w) → ∃ (t : Addr) (kt wt : Tok) (n : Nat), its[i]? = some (Value.ref t) ∧ (t, tupK #[.str k kt, .str w wt] n) ∈ rest)
    (sub : ∀ x ∈ news, x ∈ rest) (nd : (news.map (·.1)).Nodup → (((l, lstO its k) :: rest).map (·.1)).Nodup) : NewTL news ts ((l, lstO its k) :: rest) (.ref l) :=
  ⟨l, rfl, ⟨⟨its, k, .head _, hs, fun i k w e => by
    obtain ⟨t, kt, wt, n, h1, h2⟩ := hp i k w e
    exact ⟨t, kt, wt, n, h1, .tail _ h2⟩⟩⟩, fun x hx => .tail _ (sub x hx), fun x hx => off1_mem off x (sub x hx), nd⟩
theorem newTL_nil {news : News'} {l : Addr} {k : Nat} (h : ∀ x ∈ news, x.1 < l) : NewTL news [] ((l, lstO #[] k) :: news) (.ref l) :=
  ⟨l, rfl, ⟨⟨#[], k, .head _, rfl, fun i k w e => by simp at e⟩⟩, fun x hx => .tail _ hx, ne_above h, fun hn => nodup_above h hn⟩
theorem kw_R26_3 : True := by
  (k_with "MINE newtl" => ((fail_if_success k_extra "past R26"); (first
  | (refine hret _ _ _ _ (by k_asm) (by k_asm) (newTL_of (by assumption) rfl (fun i k w e => ?_) (fun x9 h9 => by walk_at "MINE memtail") (fun hn => by walk_at "MINE nod")); walk_at "MINE toks")
  | (refine hret _ _ _ _ (by k_asm) (by k_asm) (newTL_nil ?_); first | assumption | exact AllLt.all (by assumption)))))
  trivial
theorem tw_word : (⟨⟨[119, 111, 114, 100]⟩⟩ : Str) = Str.ofString "word" := by kernel_rfl!
theorem comp_ind {G : Nat → Nat → List Value → News' → Prop} {J : Nat → List Value → News' → Prop} {n : Nat} (zero : ∀ ys led, J n ys led → G 0 n ys led)
    (step : ∀ k i ys led, i + (k + 1) = n → J i ys led → (∀ y led', J (i + 1) (ys ++ [y]) led' → G k (i + 1) (ys ++ [y]) led') → G (k + 1) i ys led) {news : News'} (h0 : J 0 [] news) : G n 0 [] news := by
  have key : ∀ k i ys led, i + k = n → J i ys led → G k i ys led := by
    intro k
    induction k with
    | zero => intro i ys led e j; obtain rfl : i = n := by omega
              exact zero ys led j
    | succ k ih => intro i ys led e j; exact step k i ys led e j fun y led' j' => ih (i + 1) _ led' (by omega) j'
  exact key n 0 [] news (by omega) h0
theorem strs_at {vs : List Value} {ws : List Str} (h : StrsAre vs ws) : ∀ {i : Nat} {v : Value}, vs[i]? = some v → ∃ w u, v = .str w u ∧ ws[i]? = some w := by
  induction h with
  | nil => intro i v e; simp at e
  | cons y t _ ih =>
    intro i v e
    cases i with
    | zero => exact ⟨y, t, by simpa using e.symm, rfl⟩
    | succ i => exact ih (by simpa using e)
theorem strs_len {vs : List Value} {ws : List Str} (h : StrsAre vs ws) : vs.length = ws.length := by
  induction h with
  | nil => rfl
  | cons y t _ ih => rw [List.length_cons, List.length_cons, ih]
noncomputable abbrev wWord : Str := Str.ofString "word"
structure JW (base : News') (ws : List Str) (i : Nat) (ys : List Value) (led : News') : Prop where
  sub : ∀ x ∈ base, x ∈ led
  nd : (base.map (·.1)).Nodup → (led.map (·.1)).Nodup
  len : ys.length = i
  at_ : ∀ j, j < i → ∃ (w : Str) (t : Addr) (kt wt : Tok) (n : Nat), ws[j]? = some w ∧ ys[j]? = some (.ref t) ∧ (t, tupK #[.str wWord kt, .str w wt] n) ∈ led
theorem JW.next {base led : News'} {ws : List Str} {i : Nat} {ys : List Value} (J : JW base ws i ys led) {w : Str} (hw : ws[i]? = some w) {T : Addr} {kt wt : Tok} {n : Nat} (l : ∀ x ∈ led, x.1 < T) :
    JW base ws (i + 1) (ys ++ [.ref T]) ((T, tupK #[.str wWord kt, .str w wt] n) :: led) :=
  ⟨fun x h => .tail _ (J.sub x h), fun h => nodup_above l (J.nd h), by rw [List.length_append, J.len]; rfl, fun j hj => by
    by_cases h : j < i
    · obtain ⟨w', t, a, b, c, e1, e2, e3⟩ := J.at_ j h
      exact ⟨w', t, a, b, c, e1, by rw [List.getElem?_append_left (by rw [J.len]; exact h)]; exact e2, .tail _ e3⟩
    · obtain rfl : j = i := by omega
      exact ⟨w, T, kt, wt, n, hw, by rw [List.getElem?_append_right (by rw [J.len]; exact Nat.le_refl _), J.len, Nat.sub_self]; rfl, .head _⟩⟩
noncomputable def wordsOf (ws : List Str) : Toks := ws.map fun w => ((⟨⟨[119, 111, 114, 100]⟩⟩ : Str), w)
theorem JW.done {news led : News'} {ws : List Str} {ys : List Value} {S D : Addr} {oS : Obj} {n : Nat} (hn : n = ws.length) (lS : ∀ x ∈ news, x.1 < S) (J : JW ((S, oS) :: news) ws n ys led) (o : LCg.Off1 D led) :
    NewTL news (wordsOf ws) ((D, LCg.lst ys) :: led) (.ref D) := by
  subst hn
  unfold wordsOf
  rw [tw_word]
  refine newTL_of o ?_ (fun i k w e => ?_) (fun x h => J.sub _ (.tail _ h)) (fun h => nodup_off o (J.nd (nodup_above lS h)))
  · rw [List.size_toArray, J.len]; exact (List.length_map ..).symm
  · rw [List.getElem?_map] at e
    cases q : ws[i]? with
    | none => rw [q] at e; cases e
    | some w' =>
      rw [q] at e
      have hi : i < ws.length := by
        rcases Nat.lt_or_ge i ws.length with h | h
        · exact h
        · rw [List.getElem?_eq_none h] at q; cases q
      obtain ⟨w'', t, a, b, c, e1, e2, e3⟩ := J.at_ i hi
      rw [q] at e1
      cases e1
      simp only [Option.map_some, Option.some.injEq, Prod.mk.injEq] at e
      obtain ⟨rfl, rfl⟩ := e
      exact ⟨t, a, b, c, by rw [List.getElem?_toArray]; exact e2, e3⟩
section
variable {G : Gl} {news : News'}
theorem kw_R26_4 : True := by
  (k_with "CompSrc" => ((fail_if_success k_extra "past R26"); ((k_here; refine Stop.go ?_))))
  (k_with "CompEnd" => ((fail_if_success k_extra "past R26"); ((k_here; refine Stop.go ?_))))
  (k_with "call builtin:str.split" => ((fail_if_success k_extra "past R26"); ((k_here; (with_reducible show wpAny _ _ (call (Value.builtin "str.split") _) _ _ _); (refine KSpl.split1 (by k_asm) (by k_asm) (by decide) ?_ hz); intro D9 l9 h9 k9 e9 a9 F9 N9 g9; (try k_sweep)))))
  (k_with "compareOp NotEq str str" => ((fail_if_success k_extra "past R26"); ((k_here; refine ne_str ?_; rw [hx]))))
  trivial
theorem lw_gen (x : Str) (t : Tok) (ws : List Str) (hx : (x != (⟨⟨[]⟩⟩ : Str)) = true) (hs : Txt.split x sSpace = ws) (hz : x.length + 2 ≤ sizeLine) (hn : ws.length ≤ 64) :
    Con G 504 [.str x t] news 4 40 (fun news' v => NewTL news (wordsOf ws) news' v) := by
  walk_at "MINE enter"
  rw [sw_split]
  k_steps
  refine Stop.mk ?_
  rename StrsAre _ _ => a9
  rename List.map _ _ = _ => e9
  rename Fr _ L' _ _ => F9
  rename News _ L' _ _ => N9
  rename (∀ p : Addr × Obj, p ∈ news → p.1 < _) => g9
  replace e9 := e9.trans hs
  rw [e9] at a9
  have hl9 := strs_len a9
  k_dflt (refine LCg.CompSrc.ledger (by rfl) F9 N9 (.head _) (by rw [List.size_toArray, hl9]; exact Nat.le_trans hn (by decide)) ?_)
  intro q9
  refine comp_ind (J := JW _ ws) ?zero ?step ⟨fun _ h => h, fun h => h, rfl, fun j hj => absurd hj (Nat.not_lt_zero _)⟩
  case zero =>
    intro ys led J
    clear F9 N9
    refine LCg.CompRest.zero ?_
    k_steps
    exact hret _ _ _ _ (by k_asm) (by k_asm) (JW.done (by rw [List.size_toArray, hl9]) g9 J (by assumption))
  case step =>
    intro k i ys led hk9 J IH
    clear F9 N9
    refine LCg.CompRest.succ ?_
    intro v9 I9 oI9 C9 oC9 D9 m9 h9 tk9 E9 hv9 hC9 hx9 F9 N9 off9 ne9
    obtain ⟨c9, u9, rfl, hw9⟩ := strs_at a9 (by rw [List.getElem?_toArray] at hv9; exact hv9)
    k_steps
    refine Stop.mk ?_
    rename (_ ∧ _ ∧ _ ∧ _) => l8
    refine compEnd_mid (by k_asm) (by k_asm) l8 off9 (Or.inr ⟨_, .tail _ (J.sub _ (.head _)), rfl, _, rfl⟩) (IH _ _ (J.next hw9 (AllLt.all l8.2.2.2)))
theorem lw_D (x : Str) (t : Tok) (hx : x = (⟨⟨[68, 73, 83, 80, 76, 65, 89]⟩⟩ : Str)) : Con G 504 [.str x t] news 4 40 (fun news' v => NewTL news [((⟨⟨[119, 111, 114, 100]⟩⟩ : Str), (⟨⟨[68, 73, 83, 80, 76, 65, 89]⟩⟩ : Str))] news' v) := by
  subst hx; exact lw_gen _ t [(⟨⟨[68, 73, 83, 80, 76, 65, 89]⟩⟩ : Str)] (by decide +kernel) (by decide +kernel) (by decide +kernel) (by decide)
theorem lw_NA (x : Str) (t : Tok) (hx : x = (⟨⟨[78, 79, 32, 65, 68, 86, 65, 78, 67, 73, 78, 71]⟩⟩ : Str)) : Con G 504 [.str x t] news 4 40 (fun news' v => NewTL news [((⟨⟨[119, 111, 114, 100]⟩⟩ : Str), (⟨⟨[78, 79]⟩⟩ : Str)), ((⟨⟨[119, 111, 114, 100]⟩⟩ : Str), (⟨⟨[65, 68, 86, 65, 78, 67, 73, 78, 71]⟩⟩ : Str))] news' v) := by
  subst hx; exact lw_gen _ t [(⟨⟨[78, 79]⟩⟩ : Str), (⟨⟨[65, 68, 86, 65, 78, 67, 73, 78, 71]⟩⟩ : Str)] (by decide +kernel) (by decide +kernel) (by decide +kernel) (by decide)
theorem lw_WNA (x : Str) (t : Tok) (hx : x = (⟨⟨[87, 73, 84, 72, 32, 78, 79, 32, 65, 68, 86, 65, 78, 67, 73, 78, 71]⟩⟩ : Str)) : Con G 504 [.str x t] news 4 40 (fun news' v => NewTL news [((⟨⟨[119, 111, 114, 100]⟩⟩ : Str), (⟨⟨[87, 73, 84, 72]⟩⟩ : Str)), ((⟨⟨[119, 111, 114, 100]⟩⟩ : Str), (⟨⟨[78, 79]⟩⟩ : Str)), ((⟨⟨[119, 111, 114, 100]⟩⟩ : Str), (⟨⟨[65, 68, 86, 65, 78, 67, 73, 78, 71]⟩⟩ : Str))] news' v) := by
  subst hx; exact lw_gen _ t [(⟨⟨[87, 73, 84, 72]⟩⟩ : Str), (⟨⟨[78, 79]⟩⟩ : Str), (⟨⟨[65, 68, 86, 65, 78, 67, 73, 78, 71]⟩⟩ : Str)] (by decide +kernel) (by decide +kernel) (by decide +kernel) (by decide)
theorem lw_ELSE (x : Str) (t : Tok) (hx : x = (⟨⟨[69, 76, 83, 69]⟩⟩ : Str)) : Con G 504 [.str x t] news 4 40 (fun news' v => NewTL news [((⟨⟨[119, 111, 114, 100]⟩⟩ : Str), (⟨⟨[69, 76, 83, 69]⟩⟩ : Str))] news' v) := by
  subst hx; exact lw_gen _ t [(⟨⟨[69, 76, 83, 69]⟩⟩ : Str)] (by decide +kernel) (by decide +kernel) (by decide +kernel) (by decide)
theorem lw_DK (x : Str) (t : Tok) (hx : x = (⟨⟨[68, 73, 83, 80, 76, 65, 89, 32, 75]⟩⟩ : Str)) : Con G 504 [.str x t] news 4 40 (fun news' v => NewTL news [((⟨⟨[119, 111, 114, 100]⟩⟩ : Str), (⟨⟨[68, 73, 83, 80, 76, 65, 89]⟩⟩ : Str)), ((⟨⟨[119, 111, 114, 100]⟩⟩ : Str), (⟨⟨[75]⟩⟩ : Str))] news' v) := by
  subst hx; exact lw_gen _ t [(⟨⟨[68, 73, 83, 80, 76, 65, 89]⟩⟩ : Str), (⟨⟨[75]⟩⟩ : Str)] (by decide +kernel) (by decide +kernel) (by decide +kernel) (by decide)
theorem lw_ENDIF (x : Str) (t : Tok) (hx : x = (⟨⟨[69, 78, 68, 45, 73, 70]⟩⟩ : Str)) : Con G 504 [.str x t] news 4 40 (fun news' v => NewTL news [((⟨⟨[119, 111, 114, 100]⟩⟩ : Str), (⟨⟨[69, 78, 68, 45, 73, 70]⟩⟩ : Str))] news' v) := by
  subst hx; exact lw_gen _ t [(⟨⟨[69, 78, 68, 45, 73, 70]⟩⟩ : Str)] (by decide +kernel) (by decide +kernel) (by decide +kernel) (by decide)
theorem lw_WT (x : Str) (t : Tok) (hx : x = (⟨⟨[87, 73, 84, 72, 32, 84, 69, 83, 84]⟩⟩ : Str)) : Con G 504 [.str x t] news 4 40 (fun news' v => NewTL news [((⟨⟨[119, 111, 114, 100]⟩⟩ : Str), (⟨⟨[87, 73, 84, 72]⟩⟩ : Str)), ((⟨⟨[119, 111, 114, 100]⟩⟩ : Str), (⟨⟨[84, 69, 83, 84]⟩⟩ : Str))] news' v) := by
  subst hx; exact lw_gen _ t [(⟨⟨[87, 73, 84, 72]⟩⟩ : Str), (⟨⟨[84, 69, 83, 84]⟩⟩ : Str)] (by decide +kernel) (by decide +kernel) (by decide +kernel) (by decide)
theorem lw_WITH (x : Str) (t : Tok) (hx : x = (⟨⟨[87, 73, 84, 72]⟩⟩ : Str)) : Con G 504 [.str x t] news 4 40 (fun news' v => NewTL news [((⟨⟨[119, 111, 114, 100]⟩⟩ : Str), (⟨⟨[87, 73, 84, 72]⟩⟩ : Str))] news' v) := by
  subst hx; exact lw_gen _ t [(⟨⟨[87, 73, 84, 72]⟩⟩ : Str)] (by decide +kernel) (by decide +kernel) (by decide +kernel) (by decide)
theorem lw_K (x : Str) (t : Tok) (hx : x = (⟨⟨[75]⟩⟩ : Str)) : Con G 504 [.str x t] news 4 40 (fun news' v => NewTL news [((⟨⟨[119, 111, 114, 100]⟩⟩ : Str), (⟨⟨[75]⟩⟩ : Str))] news' v) := by
  subst hx; exact lw_gen _ t [(⟨⟨[75]⟩⟩ : Str)] (by decide +kernel) (by decide +kernel) (by decide +kernel) (by decide)
theorem lw_KRF (x : Str) (t : Tok) (hx : x = (⟨⟨[75, 32, 79, 70, 32, 82, 32, 73, 78, 32, 70]⟩⟩ : Str)) : Con G 504 [.str x t] news 4 40 (fun news' v => NewTL news [((⟨⟨[119, 111, 114, 100]⟩⟩ : Str), (⟨⟨[75]⟩⟩ : Str)), ((⟨⟨[119, 111, 114, 100]⟩⟩ : Str), (⟨⟨[79, 70]⟩⟩ : Str)), ((⟨⟨[119, 111, 114, 100]⟩⟩ : Str), (⟨⟨[82]⟩⟩ : Str)), ((⟨⟨[119, 111, 114, 100]⟩⟩ : Str), (⟨⟨[73, 78]⟩⟩ : Str)), ((⟨⟨[119, 111, 114, 100]⟩⟩ : Str), (⟨⟨[70]⟩⟩ : Str))] news' v) := by
  subst hx; exact lw_gen _ t [(⟨⟨[75]⟩⟩ : Str), (⟨⟨[79, 70]⟩⟩ : Str), (⟨⟨[82]⟩⟩ : Str), (⟨⟨[73, 78]⟩⟩ : Str), (⟨⟨[70]⟩⟩ : Str)] (by decide +kernel) (by decide +kernel) (by decide +kernel) (by decide)
theorem lw_ALL (x : Str) (t : Tok) (hx : x = (⟨⟨[65, 76, 76]⟩⟩ : Str)) : Con G 504 [.str x t] news 4 40 (fun news' v => NewTL news [((⟨⟨[119, 111, 114, 100]⟩⟩ : Str), (⟨⟨[65, 76, 76]⟩⟩ : Str))] news' v) := by
  subst hx; exact lw_gen _ t [(⟨⟨[65, 76, 76]⟩⟩ : Str)] (by decide +kernel) (by decide +kernel) (by decide +kernel) (by decide)
theorem lw_ALLZ (x : Str) (t : Tok) (hx : x = (⟨⟨[65, 76, 76, 32, 90, 69, 82, 79, 83]⟩⟩ : Str)) : Con G 504 [.str x t] news 4 40 (fun news' v => NewTL news [((⟨⟨[119, 111, 114, 100]⟩⟩ : Str), (⟨⟨[65, 76, 76]⟩⟩ : Str)), ((⟨⟨[119, 111, 114, 100]⟩⟩ : Str), (⟨⟨[90, 69, 82, 79, 83]⟩⟩ : Str))] news' v) := by
  subst hx; exact lw_gen _ t [(⟨⟨[65, 76, 76]⟩⟩ : Str), (⟨⟨[90, 69, 82, 79, 83]⟩⟩ : Str)] (by decide +kernel) (by decide +kernel) (by decide +kernel) (by decide)
theorem lw_QUOTES (x : Str) (t : Tok) (hx : x = (⟨⟨[81, 85, 79, 84, 69, 83]⟩⟩ : Str)) : Con G 504 [.str x t] news 4 40 (fun news' v => NewTL news [((⟨⟨[119, 111, 114, 100]⟩⟩ : Str), (⟨⟨[81, 85, 79, 84, 69, 83]⟩⟩ : Str))] news' v) := by
  subst hx; exact lw_gen _ t [(⟨⟨[81, 85, 79, 84, 69, 83]⟩⟩ : Str)] (by decide +kernel) (by decide +kernel) (by decide +kernel) (by decide)
theorem lw_SPACE (x : Str) (t : Tok) (hx : x = (⟨⟨[83, 80, 65, 67, 69]⟩⟩ : Str)) : Con G 504 [.str x t] news 4 40 (fun news' v => NewTL news [((⟨⟨[119, 111, 114, 100]⟩⟩ : Str), (⟨⟨[83, 80, 65, 67, 69]⟩⟩ : Str))] news' v) := by
  subst hx; exact lw_gen _ t [(⟨⟨[83, 80, 65, 67, 69]⟩⟩ : Str)] (by decide +kernel) (by decide +kernel) (by decide +kernel) (by decide)
theorem lw_HIGH (x : Str) (t : Tok) (hx : x = (⟨⟨[72, 73, 71, 72, 45, 86, 65, 76, 85, 69]⟩⟩ : Str)) : Con G 504 [.str x t] news 4 40 (fun news' v => NewTL news [((⟨⟨[119, 111, 114, 100]⟩⟩ : Str), (⟨⟨[72, 73, 71, 72, 45, 86, 65, 76, 85, 69]⟩⟩ : Str))] news' v) := by
  subst hx; exact lw_gen _ t [(⟨⟨[72, 73, 71, 72, 45, 86, 65, 76, 85, 69]⟩⟩ : Str)] (by decide +kernel) (by decide +kernel) (by decide +kernel) (by decide)
theorem lw_LOW (x : Str) (t : Tok) (hx : x = (⟨⟨[76, 79, 87, 45, 86, 65, 76, 85, 69, 83]⟩⟩ : Str)) : Con G 504 [.str x t] news 4 40 (fun news' v => NewTL news [((⟨⟨[119, 111, 114, 100]⟩⟩ : Str), (⟨⟨[76, 79, 87, 45, 86, 65, 76, 85, 69, 83]⟩⟩ : Str))] news' v) := by
  subst hx; exact lw_gen _ t [(⟨⟨[76, 79, 87, 45, 86, 65, 76, 85, 69, 83]⟩⟩ : Str)] (by decide +kernel) (by decide +kernel) (by decide +kernel) (by decide)
theorem lw_ZERO (x : Str) (t : Tok) (hx : x = (⟨⟨[90, 69, 82, 79]⟩⟩ : Str)) : Con G 504 [.str x t] news 4 40 (fun news' v => NewTL news [((⟨⟨[119, 111, 114, 100]⟩⟩ : Str), (⟨⟨[90, 69, 82, 79]⟩⟩ : Str))] news' v) := by
  subst hx; exact lw_gen _ t [(⟨⟨[90, 69, 82, 79]⟩⟩ : Str)] (by decide +kernel) (by decide +kernel) (by decide +kernel) (by decide)
theorem lw_DNA (x : Str) (t : Tok) (hx : x = (⟨⟨[68, 73, 83, 80, 76, 65, 89, 32, 78, 79, 32, 65, 68, 86, 65, 78, 67, 73, 78, 71]⟩⟩ : Str)) : Con G 504 [.str x t] news 4 40 (fun news' v => NewTL news [((⟨⟨[119, 111, 114, 100]⟩⟩ : Str), (⟨⟨[68, 73, 83, 80, 76, 65, 89]⟩⟩ : Str)), ((⟨⟨[119, 111, 114, 100]⟩⟩ : Str), (⟨⟨[78, 79]⟩⟩ : Str)), ((⟨⟨[119, 111, 114, 100]⟩⟩ : Str), (⟨⟨[65, 68, 86, 65, 78, 67, 73, 78, 71]⟩⟩ : Str))] news' v) := by
  subst hx; exact lw_gen _ t [(⟨⟨[68, 73, 83, 80, 76, 65, 89]⟩⟩ : Str), (⟨⟨[78, 79]⟩⟩ : Str), (⟨⟨[65, 68, 86, 65, 78, 67, 73, 78, 71]⟩⟩ : Str)] (by decide +kernel) (by decide +kernel) (by decide +kernel) (by decide)
theorem lw_DKN (x : Str) (t : Tok) (hx : x = (⟨⟨[68, 73, 83, 80, 76, 65, 89, 32, 75, 32, 78, 79]⟩⟩ : Str)) : Con G 504 [.str x t] news 4 40 (fun news' v => NewTL news [((⟨⟨[119, 111, 114, 100]⟩⟩ : Str), (⟨⟨[68, 73, 83, 80, 76, 65, 89]⟩⟩ : Str)), ((⟨⟨[119, 111, 114, 100]⟩⟩ : Str), (⟨⟨[75]⟩⟩ : Str)), ((⟨⟨[119, 111, 114, 100]⟩⟩ : Str), (⟨⟨[78, 79]⟩⟩ : Str))] news' v) := by
  subst hx; exact lw_gen _ t [(⟨⟨[68, 73, 83, 80, 76, 65, 89]⟩⟩ : Str), (⟨⟨[75]⟩⟩ : Str), (⟨⟨[78, 79]⟩⟩ : Str)] (by decide +kernel) (by decide +kernel) (by decide +kernel) (by decide)
theorem lw_DKWNE (x : Str) (t : Tok) (hx : x = (⟨⟨[68, 73, 83, 80, 76, 65, 89, 32, 75, 32, 87, 73, 84, 72, 32, 78, 79, 32, 69, 82, 82, 79, 82]⟩⟩ : Str)) : Con G 504 [.str x t] news 4 40 (fun news' v => NewTL news [((⟨⟨[119, 111, 114, 100]⟩⟩ : Str), (⟨⟨[68, 73, 83, 80, 76, 65, 89]⟩⟩ : Str)), ((⟨⟨[119, 111, 114, 100]⟩⟩ : Str), (⟨⟨[75]⟩⟩ : Str)), ((⟨⟨[119, 111, 114, 100]⟩⟩ : Str), (⟨⟨[87, 73, 84, 72]⟩⟩ : Str)), ((⟨⟨[119, 111, 114, 100]⟩⟩ : Str), (⟨⟨[78, 79]⟩⟩ : Str)), ((⟨⟨[119, 111, 114, 100]⟩⟩ : Str), (⟨⟨[69, 82, 82, 79, 82]⟩⟩ : Str))] news' v) := by
  subst hx; exact lw_gen _ t [(⟨⟨[68, 73, 83, 80, 76, 65, 89]⟩⟩ : Str), (⟨⟨[75]⟩⟩ : Str), (⟨⟨[87, 73, 84, 72]⟩⟩ : Str), (⟨⟨[78, 79]⟩⟩ : Str), (⟨⟨[69, 82, 82, 79, 82]⟩⟩ : Str)] (by decide +kernel) (by decide +kernel) (by decide +kernel) (by decide)
theorem lw_E (x : Str) (t : Tok) (hx : x = ⟨⟨[]⟩⟩) :
    Con G 504 [.str x t] news 4 40 (fun news' v => NewTL news [] news' v) := by
  subst hx
  walk_at "MINE enter"
  k_steps
  all_goals walk_at "MINE newtl"
end
theorem kw_R26_end : True := by
  (k_with "past R26" => skip)
  trivial
end Mine
end
noncomputable section
open PySem PySem.W PyProof.Rows PySem.Calls
set_option Elab.async false
set_option maxRecDepth 100000
namespace Mine
open PySem.SeqAt PySem.MeetsSeq
theorem eqAt_bytes {A : Around} {s : Shared} (b : Array UInt8) (t u : Tok) : EqAt A s (.bytes b t) (.bytes b u) true := fun prog w E Q h => by
  unfold eqBool
  refine wpAny_holding ?_
  refine wpAny_ite_split (fun _ => ?_) (fun _ => ?_)
  · exact wpAny_bind (wpAny_rule (wpAny_pure h))
  · refine wpAny_bind (richCompare_gives (op := .Eq) (T := "bytes") rfl rfl PySem.W.FB.slot_bytes_eq PySem.W.FB.entry_bytes_eq (PySem.W.FB.args_bytes_eq_2 _ _) (PySem.W.gives_bytes_eq b b t u) (fun x => nomatch x) (wpAny_truthy_bool ?_))
    rw [beq_self_eq_true]; exact h
theorem all_true (l : List Nat) : (l.all fun _ => true) = true := List.all_eq_true.mpr fun _ _ => rfl
mutual
noncomputable def dep : Dat → Nat
  | .tuple ds => deps ds + 1
  | .list ds => deps ds + 1
  | _ => 0
noncomputable def deps : List Dat → Nat
  | [] => 0
  | d :: ds => max (dep d) (deps ds)
end
section
variable {h₀ : Heap} {L : Addr} {news : List (Addr × Obj)} {s : Shared}
mutual
theorem dat_eqAt (N : News h₀ L s.heap news) : ∀ {v u : Value} {d : Dat} (A : Around), DatIn news v d → DatIn news u d → A.units + dep d < cLine → EqAt A s v u true
  | _, _, _, A, .none, .none, _ => EqAt.same _
  | _, _, _, A, .bool b, .bool _, _ => EqAt.same _
  | _, _, _, A, .int i t, .int _ u, _ => by
    have := EqAt.int_int (A := A) (s := s) i t i u
    rwa [beq_self_eq_true] at this
  | _, _, _, A, .str x t, .str _ u, _ => by
    have := (SeqRoads2.EqGives.str x x t u).at A s
    rwa [beq_self_eq_true] at this
  | _, _, _, A, .bytes b t, .bytes _ u, _ => eqAt_bytes _ _ _
  | _, _, _, A, @DatIn.tuple _ a vs n ds m r, @DatIn.tuple _ a' vs' n' _ m' r', hu => by
    rw [dep] at hu
    by_cases e : a = a'
    · subst e; exact EqAt.same _
    · have h := all_eqAt N A.in1 r r' (by show A.units + 1 + _ < _; omega)
      have := RcAt.tuples (A := A) (s := s) (l := a) (b := a') (e := fun _ => true) ⟨_, (N _ m).1, rfl, _, rfl⟩ ⟨_, (N _ m').1, rfl, _, rfl⟩ (by omega) (fun j h1 h2 => h j (by simpa using h1) (by simpa using h2))
      refine EqAt.of_refs e ?_
      have hs : (vs.toArray.size == vs'.toArray.size) = true := by simp [r.length, r'.length]
      rw [hs] at this
      simpa [all_true] using this
  | _, _, _, A, @DatIn.list _ a vs n ds m r, @DatIn.list _ a' vs' n' _ m' r', hu => by
    rw [dep] at hu
    by_cases e : a = a'
    · subst e; exact EqAt.same _
    · have h := all_eqAt N A.in1 r r' (by show A.units + 1 + _ < _; omega)
      have := RcAt.lists (A := A) (s := s) (l := a) (b := a') (items := vs.toArray) (items2 := vs'.toArray) (e := fun _ => true) ⟨_, (N _ m).1, rfl, _, rfl⟩ ⟨_, (N _ m').1, rfl, _, rfl⟩ (by simp [r.length, r'.length]) (by omega) (fun j h1 h2 => h j (by simpa using h1) (by simpa using h2))
      refine EqAt.of_refs e ?_
      simpa [all_true] using this
theorem all_eqAt (N : News h₀ L s.heap news) : ∀ {vs us : List Value} {ds : List Dat} (A : Around), DatAll news vs ds → DatAll news us ds → A.units + deps ds < cLine → ∀ (j : Nat) (h1 : j < vs.length) (h2 : j < us.length), EqAt A s vs[j] us[j] true
  | _, _, _, A, .nil, .nil, _, j, h1, _ => absurd h1 (Nat.not_lt_zero _)
  | _, _, _, A, .cons hd r, .cons hd' r', hu, j, h1, h2 => by
    rw [deps] at hu
    cases j with
    | zero => exact dat_eqAt N A hd hd' (by omega)
    | succ j => exact all_eqAt N A r r' (by omega) j (Nat.lt_of_succ_lt_succ h1) (Nat.lt_of_succ_lt_succ h2)
end
theorem tree_eq {prog : Program} {w : World} {A : Around} {E : Value → Shared → Prop} {Q : Value → Shared → Prop} {a b : Addr} {ds : List Dat} (N : News h₀ L s.heap news) (ha : DatIn news (.ref a) (.tuple ds)) (hb : DatIn news (.ref b) (.tuple ds)) (hu : A.units + (deps ds + 1) < cLine)
    (h : Q (.bool true) s) : wpAny (model prog w) A (compareOp .Eq (.ref a) (.ref b)) Q E s := by
  cases ha with
  | @tuple _ vs n _ m r =>
    cases hb with
    | @tuple _ vs' n' _ m' r' =>
      have h' := all_eqAt N A.in1 r r' (by show A.units + 1 + _ < _; omega)
      refine eq_tupleAt (e := fun _ => true) ⟨_, (N _ m).1, rfl, _, rfl⟩ ⟨_, (N _ m').1, rfl, _, rfl⟩ (by omega) (fun j h1 h2 => h' j (by simpa using h1) (by simpa using h2)) ?_
      have hs : (vs.toArray.size == vs'.toArray.size) = true := by simp [r.length, r'.length]
      rw [hs]
      simpa [all_true] using h
end
end Mine
end
noncomputable section
open PySem PySem.W PyProof.Rows PySem.Calls
set_option Elab.async false
set_option maxRecDepth 100000
set_option maxHeartbeats 4000000
namespace Mine
theorem TokList.mono {a b : News'} {l : Addr} {ts : Toks} (h : TokList a l ts) (s : ∀ x ∈ a, x ∈ b) : TokList b l ts := by
  obtain ⟨its, k, h1, h2, h3⟩ := h.ex
  refine ⟨its, k, s _ h1, h2, fun i k' w e => ?_⟩
  obtain ⟨t, kt, wt, n, q1, q2⟩ := h3 i k' w e
  exact ⟨t, kt, wt, n, q1, s _ q2⟩
theorem TokList.cons {a : News'} {x : Addr × Obj} {l : Addr} {ts : Toks} (h : TokList a l ts) : TokList (x :: a) l ts := h.mono fun _ h => .tail _ h
theorem TokList.kept {a b : News'} {l : Addr} {ts : Toks} {r : Addr} {q : RP} {ts' : Toks} {p : Nat} {pt : Tok} (K : Keeps a b q.dr) (R : RS a r q ts' p pt) (h : TokList a l ts) : TokList b l ts := by
  obtain ⟨its, k, h1, h2, h3⟩ := h.ex
  refine ⟨its, k, keepL R K h1, h2, fun i k' w e => ?_⟩
  obtain ⟨t, kt, wt, n, q1, q2⟩ := h3 i k' w e
  exact ⟨t, kt, wt, n, q1, keptT R K _ _ _ q2⟩
theorem TokList.set {a : News'} {l lt : Addr} {ts : Toks} {its its' : Array Value} {n n' : Nat} (nd : (a.map (·.1)).Nodup) (m : (lt, lstO its n) ∈ a) (ne : l ≠ lt) (h : TokList a l ts) : TokList (setAt a lt (lstO its' n')) l ts := by
  obtain ⟨its, k, h1, h2, h3⟩ := h.ex
  refine ⟨its, k, mem_setAt h1 ne, h2, fun i k' w e => ?_⟩
  obtain ⟨t, kt, wt, n, q1, q2⟩ := h3 i k' w e
  exact ⟨t, kt, wt, n, q1, setT nd m _ _ _ q2⟩
theorem toks_append {its its' : Array Value} {ts ts' : Toks} {led : News'} (h1 : its.size = ts.length)
    (p1 : ∀ (i : Nat) (k w : Str), ts[i]? = some (k, w) → ∃ (t : Addr) (kt wt : Tok) (n : Nat), its[i]? = some (Value.ref t) ∧ (t, tupK #[.str k kt, .str w wt] n) ∈ led)
    (p2 : ∀ (i : Nat) (k w : Str), ts'[i]? = some (k, w) → ∃ (t : Addr) (kt wt : Tok) (n : Nat), its'[i]? = some (Value.ref t) ∧ (t, tupK #[.str k kt, .str w wt] n) ∈ led) :
    ∀ (i : Nat) (k w : Str), (ts ++ ts')[i]? = some (k, w) → ∃ (t : Addr) (kt wt : Tok) (n : Nat), (its.toList ++ its'.toList).toArray[i]? = some (Value.ref t) ∧ (t, tupK #[.str k kt, .str w wt] n) ∈ led := fun i k w e => by
  by_cases hi : i < ts.length
  · rw [List.getElem?_append_left hi] at e
    obtain ⟨t, kt, wt, n, q1, q2⟩ := p1 i k w e
    exact ⟨t, kt, wt, n, by rw [List.getElem?_toArray, List.getElem?_append_left (by rw [Array.length_toList]; omega), Array.getElem?_toList]; exact q1, q2⟩
  · rw [List.getElem?_append_right (by omega)] at e
    obtain ⟨t, kt, wt, n, q1, q2⟩ := p2 _ k w e
    exact ⟨t, kt, wt, n, by rw [List.getElem?_toArray, List.getElem?_append_right (by rw [Array.length_toList]; omega), Array.length_toList, h1, Array.getElem?_toList]; exact q1, q2⟩
theorem add_toks {prog : Program} {w : World} {A : Around} {E : Value → Shared → Prop} {s : Shared} {h₀ : Heap} {L : Addr} {m : Str → Option Value} {led sub : News'} {a b : Addr} {ta tb : Toks} {Q : Value → Shared → Prop}
    (F : Fr h₀ L s.heap m) (N : News h₀ L s.heap led) (hs : ∀ x ∈ sub, x ∈ led) (Ta : TokList sub a ta) (Tb : TokList sub b tb) (hz : ta.length + tb.length ≤ 1024)
    (h : ∀ D its k h', Fr h₀ L h' m → News h₀ L h' ((D, lstO its k) :: led) → (∀ p ∈ led, p.1 < D) → TokList ((D, lstO its k) :: sub) D (ta ++ tb) → its.size = ta.length + tb.length → Q (.ref D) { s with heap := h' }) :
    wpAny (model prog w) A (binaryOp .Add (.ref a) (.ref b)) Q E s := by
  obtain ⟨ia, ka, h1, h2, h3⟩ := Ta.ex
  obtain ⟨ib, kb, q1, q2, q3⟩ := Tb.ex
  have e1 : s.heap.IsList a ia.toList.toArray := ⟨_, (N _ (hs _ h1)).1, rfl, _, rfl⟩
  have e2 : s.heap.IsList b ib.toList.toArray := ⟨_, (N _ (hs _ q1)).1, rfl, _, rfl⟩
  refine add_lists (hsz := by rw [Array.length_toList, Array.length_toList]; exact Nat.le_trans (by omega : ia.size + ib.size ≤ 1024) (by decide)) F N e1 e2 fun h' F' N' => ?_
  refine h _ _ _ h' F' N' (fun p hp => Heap.lt_size (N p hp).1) (TokList.mk ⟨(ia.toList ++ ib.toList).toArray, _, .head _, by simp [h2, q2], fun i k w e => ?_⟩) (by simp [h2, q2])
  obtain ⟨t, kt, wt, n, r1, r2⟩ := toks_append h2 h3 q3 i k w e
  exact ⟨t, kt, wt, n, r1, .tail _ r2⟩
theorem setAt_cons {l : News'} {d : Addr} {o : Obj} {x : Addr × Obj} (h : x.1 ≠ d) : setAt (x :: l) d o = x :: setAt l d o := by
  show (if x.1 = d then (d, o) else x) :: setAt l d o = _
  rw [if_neg h]
/-- an append to a list that stands behind two objects -/
theorem append_2 {prog : Program} {w : World} {A : Around} {E : Value → Shared → Prop} {s : Shared} {h₀ : Heap} {L l : Addr} {m : Str → Option Value} {led : News'} {p1 p2 : Addr × Obj} {its : Array Value} {n : Nat} {x : Value} {Q : Value → Shared → Prop}
    (F : Fr h₀ L s.heap m) (N : News h₀ L s.heap (p1 :: p2 :: led)) (n1 : p1.1 ≠ l) (n2 : p2.1 ≠ l) (nd : (led.map (·.1)).Nodup) (hm : (l, lstO its n) ∈ led)
    (h : ∀ h', Fr h₀ L h' m → News h₀ L h' (p1 :: p2 :: setAt led l (lstO (its.push x) (n + 1))) → Q .none { s with heap := h' }) (hsz : its.size ≤ 64) : wpAny (model prog w) A (call (.builtin "list.append") [.ref l, x]) Q E s :=
  append_K F N (.tail n1 (.tail n2 (upd_at nd hm))) h (Nat.le_trans hsz (by decide))
/-- the operands, as the law hands them over -/
inductive OpsAll (news : News') : List Value → List Nat → Prop
  | nil : OpsAll news [] []
  | cons {t l : Addr} {v : Value} {n i : Nat} {vs : List Value} {is : List Nat} : (t, tupK #[.ref l, v] n) ∈ news → TokList news l (itToks i) → DatIn news v (itTree i) → i < 15 → OpsAll news vs is → OpsAll news (.ref t :: vs) (i :: is)
theorem OpsAll.mono {a b : News'} (s : ∀ x ∈ a, x ∈ b) : ∀ {vs : List Value} {is : List Nat}, OpsAll a vs is → OpsAll b vs is
  | _, _, .nil => .nil
  | _, _, .cons h1 h2 h3 h4 h => .cons (s _ h1) (h2.mono s) (h3.mono s) h4 (h.mono s)
theorem OpsAll.len {a : News'} : ∀ {vs : List Value} {is : List Nat}, OpsAll a vs is → vs.length = is.length
  | _, _, .nil => rfl
  | _, _, .cons _ _ _ _ h => by rw [List.length_cons, List.length_cons, h.len]
noncomputable abbrev kTokens : Str := ⟨⟨[116, 111, 107, 101, 110, 115]⟩⟩
noncomputable abbrev kTrees : Str := ⟨⟨[116, 114, 101, 101, 115]⟩⟩
noncomputable abbrev kEnd : Str := ⟨⟨[101, 110, 100]⟩⟩
noncomputable abbrev kBehind : Str := ⟨⟨[98, 101, 104, 105, 110, 100]⟩⟩
structure ForAt (base : News') (I lt lb : Addr) (xe : Str) (te : Tok) (D : List Dat) (TT : Toks) (vs : List Value) (is : List Nat) (m : Str → Option Value) (led : News') : Prop where
  ops : OpsAll base vs is
  mtok : ∃ lk ts, m kTokens = some (.ref lk) ∧ TokList led lk ts ∧ lk ≠ lt ∧ ts ++ flat is = TT
  mt : m kTrees = some (.ref lt)
  me : m kEnd = some (.str xe te)
  mb : m kBehind = some (.ref lb)
  nd : (led.map (·.1)).Nodup
  sub : ∀ x ∈ base, x ∈ led
  offI : ∀ x ∈ led, x.1 ≠ I
  ht : ∃ tv n ds, (lt, lstO tv n) ∈ led ∧ DatAll led tv.toList ds ∧ noLs ds = true ∧ ds ++ is.map itTree = D ∧ tv.size + is.length ≤ 32
  hbt : ∀ x ∈ base, x.1 ≠ lt
  len : TT.length ≤ 900
theorem items_ind {G : List Value → (Str → Option Value) → News' → Prop} {base : News'} {I lt lb : Addr} {xe : Str} {te : Tok} {D : List Dat} {TT : Toks}
    (step : ∀ vs is m led, ForAt base I lt lb xe te D TT vs is m led → (∀ v vs' i is', vs = v :: vs' → is = i :: is' → ∀ m' led', ForAt base I lt lb xe te D TT vs' is' m' led' → G vs' m' led') → G vs m led) :
    ∀ vs is m led, ForAt base I lt lb xe te D TT vs is m led → G vs m led := by
  intro vs
  induction vs with
  | nil => exact fun is m led S => step [] is m led S fun v vs' i is' e => nomatch e
  | cons v vs ih => exact fun is m led S => step (v :: vs) is m led S fun v' vs' i is' e e' m' led' S' => by cases e; exact ih is' m' led' S'
theorem ForAt.next {base : News'} {I lt lb : Addr} {xe : Str} {te : Tok} {D : List Dat} {TT : Toks} {t : Addr} {v : Value} {i : Nat} {vs : List Value} {is : List Nat} {m m' : Str → Option Value} {led : News'} {D' : Addr} {ts : Toks} {tv its : Array Value} {kk nn : Nat} {ds : List Dat}
    (S : ForAt base I lt lb xe te D TT (.ref t :: vs) (i :: is) m led) (ht : (lt, lstO tv nn) ∈ led) (hd : DatAll led tv.toList ds) (hn : noLs ds = true) (hD : ds ++ (i :: is).map itTree = D) (hz : tv.size + (i :: is).length ≤ 32) (hTT : ts ++ flat (i :: is) = TT)
    (ho : OpsAll base vs is) (hv : DatIn base v (itTree i)) (hi : i < 15)
    (h1 : m' kTokens = some (.ref D')) (h2 : m' kTrees = some (.ref lt)) (h3 : m' kEnd = some (.str xe te)) (h4 : m' kBehind = some (.ref lb))
    (lD : ∀ p ∈ led, p.1 < D') (lI : I < D') (T : TokList ((D', lstO its kk) :: led) D' (ts ++ itToks i)) :
    ForAt base I lt lb xe te D TT vs is m' ((D', lstO its kk) :: setAt led lt (lstO (tv.push v) (nn + 1))) := by
  have nlt : lt ≠ D' := Nat.ne_of_lt (lD _ ht)
  have nd' := nodup_above (o := lstO its kk) lD S.nd
  refine ⟨ho, ⟨D', _, h1, ?_, nlt.symm, by rw [← hTT, List.append_assoc]; rfl⟩, h2, h3, h4, ?_, fun x hx => .tail _ (mem_setAt (S.sub x hx) (S.hbt x hx)), ?_, ⟨tv.push v, nn + 1, ds ++ [itTree i], .tail _ (mem_setAt_self ht), ?_, ?_, ?_, ?_⟩, S.hbt, S.len⟩
  · rw [← setAt_cons (x := (D', lstO its kk)) nlt.symm]
    exact TokList.set nd' (.tail _ ht) nlt.symm T
  · rw [← setAt_cons (x := (D', lstO its kk)) nlt.symm, setAt_keys]; exact nd'
  · intro x hx
    rcases List.mem_cons.mp hx with rfl | hx
    · exact Nat.ne_of_gt lI
    · have : x.1 ∈ (setAt led lt (lstO (tv.push v) (nn + 1))).map (·.1) := List.mem_map.mpr ⟨x, hx, rfl⟩
      rw [setAt_keys] at this
      obtain ⟨y, hy, e⟩ := List.mem_map.mp this
      rw [← e]; exact S.offI y hy
  · rw [Array.toList_push]
    refine (DatAll.append (datAllMoved (setT S.nd ht) hd hn) (DatAll.one (datMoved (setT S.nd ht) (hv.mono S.sub) (it_noL i hi)))).mono fun x hx => .tail _ hx
  · rw [noLs_append, hn, noLs, noLs, it_noL i hi]; rfl
  · rw [← hD, List.map_cons, List.append_assoc]; rfl
  · rw [Array.size_push]; simp only [List.length_cons] at hz; omega
theorem forEnd {h₀ : Heap} {L : Addr} {s₁ : Shared} {base : News'} {I lt lb : Addr} {xe : Str} {te : Tok} {D : List Dat} {TT : Toks} {vs : List Value} {is : List Nat} {m' : Str → Option Value} {h : Heap} {tk : Nat} {x : Addr × Obj} {oI : Obj} {r : News'} {lp : Addr × Obj} {rest : (Str → Option Value) → News' → Prop}
    (F : Fr h₀ L h m') (N : News h₀ L h (x :: (I, oI) :: r)) (hmo : lp ∈ base) (inv : ForAt base I lt lb xe te D TT vs is m' (x :: r)) (hr : ForAt base I lt lb xe te D TT vs is m' (x :: r) → rest m' (x :: r)) :
    UnrEndW h₀ L s₁ [(I, oI)] (fun m' n' => SubL [lp] n' ∧ rest m' n') { s₁ with heap := h, toks := tk } := by
  refine ⟨h, tk, m', x :: r, rfl, F, fun p hp => N p ?_, fun p hp q hq => ?_, ⟨inv.sub _ hmo, trivial⟩, hr inv⟩
  · rcases List.mem_append.mp hp with hp | hp
    · rw [List.mem_singleton.mp hp]; exact .tail _ (.head _)
    · rcases List.mem_cons.mp hp with rfl | hp
      · exact .head _
      · exact .tail _ (.tail _ hp)
  · rw [List.mem_singleton.mp hq]; exact inv.offI p hp
end Mine
end
noncomputable section
open PySem PySem.W PyProof.Rows PySem.Calls
set_option Elab.async false
set_option maxRecDepth 100000
set_option maxHeartbeats 4000000
namespace Mine
/-- a table of code at P, empty or with the block at pos in it -/
noncomputable def TabP (P : Addr) (pos : Pos) (news : News') : Prop := ∃ ps : Array Value, (P, tabObj ps) ∈ news ∧ TriplesOk ps.toList ∧ (codeAmong pos ps.toList = none ∨ ∃ c, codeAmong pos ps.toList = some (.ref c))
noncomputable abbrev posR : Pos := { line := 378, col := 32, endLine := 378, endCol := 48 }
noncomputable abbrev posF : Pos := { line := 382, col := 42, endLine := 382, endCol := 58 }
theorem TabP.mono {P : Addr} {pos : Pos} {a b : News'} (h : TabP P pos a) (s : ∀ ps, (P, tabObj ps) ∈ a → (P, tabObj ps) ∈ b) : TabP P pos b := by
  obtain ⟨ps, m, h⟩ := h
  exact ⟨ps, s _ m, h⟩
section
variable {led : News'} {r : Addr} {q : RP} {ts : Toks} {p : Nat} {pt : Tok} {P : Addr} {pos : Pos}
theorem RS.tabP (R : RS led r q ts p pt) {ps ps' : Array Value} (m : (P, tabObj ps) ∈ led) (hP : P ≠ 232) : RS (setAt led P (tabObj ps')) r q ts p pt := by
  obtain ⟨itr, nr, hl, hs, ht⟩ := R.list
  refine ⟨mem_setAt R.inst (ne_at R.nodup R.inst m (tab_inst _ _ _)), mem_setAt R.dict (ne_at R.nodup R.dict m (tab_rd _ _ _ _)), ⟨itr, nr, mem_setAt hl (ne_at R.nodup hl m (tab_lst _ _ _)), hs, fun i k w e => ?_⟩, by rw [setAt_keys]; exact R.nodup, R.small, R.here, ?_⟩
  · obtain ⟨t, tp, h1, h2⟩ := ht i k w e
    exact ⟨t, tp, h1, mem_setAt h2.inst (ne_at R.nodup h2.inst m (tab_inst _ _ _)), mem_setAt h2.dict (ne_at R.nodup h2.dict m (tab_tok _ _ _ _))⟩
  · obtain ⟨ps, m', h⟩ := R.tab
    exact ⟨ps, mem_setAt m' (Ne.symm hP), h⟩
end
section
variable {M : Model} {A : Around} {E : Value → Shared → Prop} {s : Shared} {h₀ : Heap} {L a c P : Addr} {m mg mb : Str → Option Value} {cn : Str} {cs : Scope} {ccd : Value} {cl : List (Str × Addr)} {led : News'}
  {pg : Program} {loose : List Str} {mean : ExcName → Option Value} {name qual : Str} {params : Arguments} {body : Expr} {scope : Scope} {pos : Pos} {firstLine : Nat} {clos : List (Str × Addr)} {r : Addr} {q : RP} {ts : Toks} {p : Nat} {pt : Tok}
theorem lam_stepP {Q : Value → Shared → Prop} (R : RS led r q ts p pt) (H : TabP P pos led) (hP : P ≠ 232) (F : Fr h₀ L s.heap m) (N : News h₀ L s.heap led) (T : Top pg loose mean mg mb h₀) (C : CodeHd h₀ c P) (hcd : ccd = .ref c) (hcl : closureFor scope (envX cn cs L a ccd cl) = pure clos)
    (h : ∀ f led' h' tk, Fr h₀ L h' m → News h₀ L h' led' → RS led' r q ts p pt → (∀ x ∈ led, x.1 ≠ P → x ∈ led') → TabP P pos led' → Q (.ref f) { s with heap := h', toks := tk }) :
    wpAny M A (makeFunction name qual params (.expr body) scope (envX cn cs L a ccd cl) [] [] [] pos firstLine) Q E s := by
  obtain ⟨ps, mP, ht, hc⟩ := H
  rcases hc with hn | ⟨c0, hs⟩
  · obtain ⟨g, U, eg⟩ := updF_at R.nodup mP
    refine kla_nest F N T C hcd U ht hn hcl fun f c' oc vs t ctv h' tk F' N' _ _ l1 l2 => ?_
    rw [eg] at N'
    have l1' := setAt_above (d := P) (o := tabObj (ps ++ #[rawInt pos.line, rawInt pos.col, .ref c'])) l1
    refine h _ _ _ _ F' N' (RS.cons (fun x hx => ?_) (RS.cons l1' (R.tabP mP hP))) (fun x hx hx' => .tail _ (.tail _ (mem_setAt hx hx'))) ⟨_, .tail _ (.tail _ (mem_setAt_self mP)), ?_, Or.inr ⟨c', ?_⟩⟩
    · rcases List.mem_cons.mp hx with rfl | hx
      · exact l2
      · exact Nat.lt_trans (l1' x hx) l2
    · rw [Array.toList_append]; exact TriplesOk_snoc _ _ _ _ ht
    · rw [Array.toList_append]; exact codeAmong_snoc _ ht hn
  · refine kla_hit F N T C hcd mP ht hs hcl fun f ctv h' tk F' N' l1 => ?_
    exact h _ _ _ _ F' N' (RS.cons l1 R) (fun x hx _ => .tail _ hx) ⟨ps, .tail _ mP, ht, Or.inr ⟨c0, hs⟩⟩
end
theorem mem_sub {a b : News'} {x : Addr × Obj} (s : ∀ x ∈ a, x ∈ b) (h : x ∈ a) : x ∈ b := s x h
theorem tab_lt {led : News'} {P : Addr} {pos : Pos} (H : TabP P pos led) (nd : (led.map (·.1)).Nodup) {l : Addr} {its : Array Value} {n : Nat} (h : (l, lstO its n) ∈ led) : l ≠ P := by
  obtain ⟨ps, m, _⟩ := H
  exact ne_at nd h m (tab_lst _ _ _)
theorem tab_tu {led : News'} {P : Addr} {pos : Pos} (H : TabP P pos led) (nd : (led.map (·.1)).Nodup) {l : Addr} {vs : Array Value} {n : Nat} (h : (l, ({ cls := .type "tuple", data := .seq vs n } : Obj)) ∈ led) : l ≠ P := by
  obtain ⟨ps, m, _⟩ := H
  exact ne_at nd h m (tab_tup _ _ _)
theorem TokList.tabbed {a b : News'} {P : Addr} {pos : Pos} {l : Addr} {ts : Toks} (H : TabP P pos a) (nd : (a.map (·.1)).Nodup) (s : ∀ x ∈ a, x.1 ≠ P → x ∈ b) (h : TokList a l ts) : TokList b l ts := by
  obtain ⟨its, k, h1, h2, h3⟩ := h.ex
  refine ⟨its, k, s _ h1 (tab_lt H nd h1), h2, fun i k' w e => ?_⟩
  obtain ⟨t, kt, wt, n, q1, q2⟩ := h3 i k' w e
  exact ⟨t, kt, wt, n, q1, s _ q2 (tab_tu H nd q2)⟩
theorem datAllTab {a b : News'} {P : Addr} {pos : Pos} {vs : List Value} {ds : List Dat} (H : TabP P pos a) (nd : (a.map (·.1)).Nodup) (s : ∀ x ∈ a, x.1 ≠ P → x ∈ b) (h : DatAll a vs ds) (f : noLs ds = true) : DatAll b vs ds :=
  datAllMoved (fun _ _ _ m => s _ m (tab_tu H nd m)) h f
theorem it_dep : ∀ i < 15, dep (itTree i) ≤ 5 := cases15 (by decide) (by decide) (by decide) (by decide) (by decide) (by decide) (by decide) (by decide) (by decide) (by decide) (by decide) (by decide) (by decide) (by decide) (by decide)
theorem its_dep : ∀ (is : List Nat), (∀ i ∈ is, i < 15) → deps (is.map itTree) ≤ 5
  | [], _ => Nat.zero_le _
  | i :: is, h => by
    have h1 := it_dep i (h i (.head _))
    have h2 := its_dep is fun j hj => h j (.tail _ hj)
    rw [List.map_cons, deps]
    omega
theorem disp_dep {is : List Nat} (h : ∀ i ∈ is, i < 15) (x : Str) (b : Bool) : deps [.str x, .tuple (is.map itTree), .bool b] ≤ 7 := by
  have := its_dep is h
  simp only [deps, dep]
  omega
/-- what a call leaves of the ledger: all but the two tables, and those as they may be -/
structure LBk (P : Addr) (pos : Pos) (news news' : News') : Prop where
  nodup : (news'.map (·.1)).Nodup
  tab : TabOk news'
  tabP : TabP P pos news'
  keep : ∀ x ∈ news, x.1 ≠ 232 → x.1 ≠ P → x ∈ news'
theorem right_fin {P : Addr} {pos : Pos} {news led n1 led9 L2 : News'} {r : Addr} {q : RP} {ts : Toks} {p : Nat} {pt : Tok} (hP : P ≠ 232) (sub : ∀ x ∈ news, x ∈ led) (hsub : ∀ x ∈ led, x ∈ n1) (sP : ∀ x ∈ n1, x.1 ≠ P → x ∈ led9) (aP : ∀ x ∈ led, x.1 < q.dr)
    (K : Keeps led9 L2 q.dr) (R : RS L2 r q ts p pt) (tR : TabP P pos led9) (tabR0 : TabP P pos news) : LBk P pos news L2 := by
  obtain ⟨ps, m, _⟩ := tabR0
  have hlt := aP _ (sub _ m)
  exact ⟨R.nodup, R.tab, tR.mono fun ps' m' => K _ m' (Nat.ne_of_lt hlt) hP, fun x hx h1 h2 => K _ (sP _ (hsub _ (sub _ hx)) h2) (Nat.ne_of_lt (aP _ (sub _ hx))) h1⟩
theorem lam_codeR {w : World} {h : Heap} (X : (KN w.params).In h) : CodeHd h 529 525 := codeHd_of_K X (by kernel_rfl!)
theorem lam_codeF {w : World} {h : Heap} (X : (KN w.params).In h) : CodeHd h 536 532 := codeHd_of_K X (by kernel_rfl!)
end Mine
end
noncomputable section
open PySem PySem.W PyProof.Rows PySem.Calls
set_option Elab.async false
set_option maxRecDepth 100000
set_option maxHeartbeats 4000000
namespace Mine
section
variable {G : Gl} {sc : Sc} {X : Xx G sc} {K : List Kf} {ml : Ml} {ns : News'} {tk : Nat}
theorem ob_newtl {f : Addr} {vs : List Value} {D U : Nat} {ts : Toks} (C : Con G f vs ns D U (fun n v => NewTL ns ts n v)) (hd : Nat.ble (D + 1) sc.D = true) (hu : Nat.ble (U + 3) sc.U = true)
    (ret : ∀ l n' tk', TokList n' l ts → (∀ x ∈ ns, x ∈ n') → ((ns.map (·.1)).Nodup → (n'.map (·.1)).Nodup) → go X 300 (.ret (.v (.ref l))) K ml n' tk') : Ob X (.call (.ref f) vs) K ml ns tk :=
  ob_call C hd hu fun v n' tk' p => by
    obtain ⟨l, e, T', s', _, nd⟩ := p
    subst e
    exact ret l n' tk' T' s' nd
theorem ob_addToks {sub : News'} {a b : Addr} {ta tb : Toks} (hs : ∀ x ∈ sub, x ∈ ns) (Ta : TokList sub a ta) (Tb : TokList sub b tb) (hz : ta.length + tb.length ≤ 1024)
    (h : ∀ D its k, (∀ p ∈ ns, p.1 < D) → TokList ((D, lstO its k) :: sub) D (ta ++ tb) → its.size = ta.length + tb.length → go X 300 (.ret (.v (.ref D))) K ml ((D, lstO its k) :: ns) tk) : Ob X (.bin .Add (.ref a) (.ref b)) K ml ns tk :=
  ⟨fun s hR => by
    obtain ⟨h₁, rfl, F, N⟩ := hR
    exact add_toks F N hs Ta Tb hz fun D its k h' F' N' l T e => go_ok _ _ _ _ _ _ (h D its k l T e) _ ⟨h', rfl, F', N'⟩⟩
theorem tl_mono {a b : News'} {l : Addr} {ts : Toks} (s : ∀ x ∈ a, x ∈ b) (h : TokList a l ts) : TokList b l ts := h.mono s
theorem ob_lr {l : Addr} {ts : Toks} (T : TokList ns l ts) (hn : (ns.map (·.1)).Nodup) (hlen : ts.length < 1024) (hT : TabOk ns) (hd : Nat.ble (12 + 1) sc.D = true) (hu : Nat.ble (100 + 3) sc.U = true)
    (ret : ∀ r q pt n' tk', RS n' r q ts 0 pt → (∀ x ∈ ns, x ∈ n') → (∀ x ∈ ns, x.1 < q.dr) → go X 300 (.ret (.v (.ref r))) K ml n' tk') : Ob X (.call (.ref 509) [.ref l]) K ml ns tk :=
  ob_call (lr_c T hn hlen hT) hd hu fun v n' tk' p => by
    obtain ⟨r, q, pt, ys, e, R, s', a, _, _⟩ := p
    subst e
    exact ret r q pt n' tk' R s' a
/-- a for whose target is a tuple, over the items of a list -/
noncomputable def ForT (X : Xx G sc) (I : Addr) (lp : Addr × Obj) (elts : List PySem.Expr) (k : Nat) (pos : Pos) (body : List Stmt) (K : List Kf) : List Value → Ml → News' → Prop
  | [], ml, ns => ∀ tk, go X 300 (.ret (.f .next)) K ml ns tk
  | v :: r, ml, ns => ∀ it tk Q, (∀ ml' ns' n' tk', (I, it) ∈ ns' → (∀ p ∈ n', p ∈ ns') → (∀ p ∈ n', p.1 ≠ I) → lp ∈ n' → ForT X I lp elts k pos body K r ml' n' → Ob X (.ret (.f .next)) [.q Q] ml' ns' tk') →
      go X 300 (.ret (.v v)) [.asgT elts k pos, .seq body, .q Q] ml ((I, it) :: ns) tk
theorem ir_eq {prog : Program} {w : World} {A : Around} {E : Value → Shared → Prop} {h₁ : Heap} {env : Env} {target : PySem.Expr} {body : List Stmt} {Q : Flow → Shared → Prop} {s : Shared} {h₀ : Heap} {t₀ : Nat} {ws : List (Addr × String)} {keep : List (Addr × Obj)} : ∀ vs : List Itm, ItemsRest prog w A E h₁ env target body Q { s with heap := h₀, toks := t₀ } ws keep vs = ItemsRest prog w A E h₁ env target body Q s ws keep vs
  | [] => rfl
  | v :: r => by
    funext m ns
    unfold ItemsRest
    rw [ir_eq r]
theorem forT_ok {I : Addr} {lp : Addr × Obj} {elts : List PySem.Expr} {k : Nat} {pos : Pos} {body : List Stmt} : ∀ {vs : List Value} {ml : Ml} {ns : News'}, ForT X I lp elts k pos body K vs ml ns →
    ItemsRest PX G.w X.A X.E X.h₀ X.env (.Tuple elts k pos) body (fun f => den X K (.f f)) X.s0 [(I, "list_iterator")] [lp] (vs.map .val) (lk ml) ns
  | [], _, _, h => ItemsRest.zero fun h₁ tk F N => go_ok _ _ _ _ _ _ (h tk) _ ⟨h₁, rfl, F, N⟩
  | v :: r, ml, ns, H => ItemsRest.val fun h₁ tk F => AllObj.cons fun oI _ => AllObj.nil fun N =>
      go_ok _ _ _ _ _ _ (H oI tk (UnrPostW X.h₀ X.L { X.s0 with heap := h₁, toks := tk } [(I, oI)] (fun m' n' => SubL [lp] n' ∧ ItemsRest PX G.w X.A X.E X.h₀ X.env (.Tuple elts k pos) body (fun f => den X K (.f f)) X.s0 [(I, "list_iterator")] [lp] (r.map .val) m' n') (fun f => den X K (.f f)))
        fun ml' ns' n' tk' hI sub off hl hF => ⟨fun s hR => by
          obtain ⟨h', rfl, F', N'⟩ := hR
          refine ⟨h', tk', lk ml', n', rfl, F', fun p hp => ?_, fun p hp q hq => ?_, ⟨hl, trivial⟩, forT_ok hF⟩
          · rcases List.mem_append.mp hp with hp | hp
            · rw [List.mem_singleton.mp hp]; exact N' _ hI
            · exact N' _ (sub p hp)
          · rw [List.mem_singleton.mp hq]; exact off p hp⟩) _ ⟨h₁, rfl, F, N⟩
/-- what stands behind the iterable of such a for -/
noncomputable def IterT (X : Xx G sc) (elts : List PySem.Expr) (k : Nat) (pos : Pos) (body : List Stmt) (K : List Kf) (xv : Value) (s : Shared) : Prop :=
  X.wp (pyIter xv) (fun it s₂ => TurnsAt PX G.w X.A X.h₀ X.env (.Tuple elts k pos) body (fun f => den X K (.f f)) X.E it s₂) s
theorem ob_forT {elts : List PySem.Expr} {k : Nat} {tp pos : Pos} {iter : PySem.Expr} {body : List Stmt} (hs : ∀ x, foldedSetIterable iter X.env x = pure x) (h : go X 300 (.ev iter) [.qv (IterT X elts k tp body K)] ml ns tk) : Ob X (.exec (.For (.Tuple elts k tp) iter body [] pos)) K ml ns tk :=
  ⟨fun s hR => by
    obtain ⟨h₁, rfl, F, N⟩ := id hR
    exact For_turns F (go_ok _ _ _ _ _ _ h _ hR) hs X.pass⟩
theorem ob_iterT {elts : List PySem.Expr} {k : Nat} {tp : Pos} {body : List Stmt} {l : Addr} {its : Array Value} {n : Nat} (hm : (l, lstO its n) ∈ ns) (h : ∀ I, (∀ p ∈ ns, p.1 < I) → ForT X I (l, lstO its n) elts k tp body K its.toList ml ns) : Ob X (.ret (.v (.ref l))) [.qv (IterT X elts k tp body K)] ml ns tk :=
  ⟨fun s hR => by
    obtain ⟨h₁, rfl, F, N⟩ := hR
    exact iter_listTurns X.hh F N hm rfl rfl fun I l => by rw [ir_eq]; exact forT_ok (h I l)⟩
theorem forT_ind {I : Addr} {lp : Addr × Obj} {elts : List PySem.Expr} {k : Nat} {pos : Pos} {body : List Stmt} {Inv : List Value → Ml → News' → Prop}
    (step : ∀ vs ml ns, Inv vs ml ns → (∀ v vs', vs = v :: vs' → ∀ ml' ns', Inv vs' ml' ns' → ForT X I lp elts k pos body K vs' ml' ns') → ForT X I lp elts k pos body K vs ml ns) : ∀ vs ml ns, Inv vs ml ns → ForT X I lp elts k pos body K vs ml ns := by
  intro vs
  induction vs with
  | nil => exact fun ml ns S => step [] ml ns S fun v vs' e => nomatch e
  | cons v vs ih => exact fun ml ns S => step (v :: vs) ml ns S fun v' vs' e => by cases e; exact ih
theorem ob_unpT {x y : Str} {p q : Pos} {k : Nat} {pos : Pos} {t : Addr} {a b : Value} {n : Nat} (hm : (t, tupK #[a, b] n) ∈ ns) (hx : lk sc.cs.names x = some .local) (hy : lk sc.cs.names y = some .local)
    (h : go X 300 (.ret (.f .next)) K (put (put ml x a) y b) ns tk.succ.succ) : Ob X (.unp [.Name x p, .Name y q] k pos (.ref t)) K ml ns tk :=
  ⟨fun s hR => by
    obtain ⟨h₁, rfl, F, N⟩ := hR
    refine unpackN_ F N ⟨_, (N _ hm).1, rfl, _, rfl⟩ X.hh rfl rfl fun h' F' N' => ?_
    refine assignInOrder_cons (PyProof.Rows.assign_Name (store_go hx ⟨h', rfl, F', N'⟩ fun s2 hR2 => ?_))
    refine assignInOrder_cons (PyProof.Rows.assign_Name (store_go hy hR2 fun s3 hR3 => ?_))
    exact assignInOrder_nil (go_ok _ _ _ _ _ _ h _ hR3)⟩
theorem ob_lamP {params : Arguments} {body : PySem.Expr} {scope : Scope} {pos : Pos} {c P : Addr} {r : Addr} {q : RP} {ts : Toks} {p : Nat} {pt : Tok} (R : RS ns r q ts p pt) (H : TabP P pos ns) (hP : P ≠ 232) (C : CodeHd X.h₀ c P) (hcd : sc.cd = .ref c) (hdef : defaultsOf params X.env = ([], [])) (hcl : closureFor scope X.env = pure [])
    (ret : ∀ f n' tk', RS n' r q ts p pt → (∀ x ∈ ns, x.1 ≠ P → x ∈ n') → TabP P pos n' → go X 300 (.ret (.v (.ref f))) K ml n' tk') : Ob X (.ev (.Lambda params body scope pos)) K ml ns tk :=
  ⟨fun s hR => by
    obtain ⟨h₁, rfl, F, N⟩ := hR
    exact kla_eval hdef (lam_stepP R H hP F N X.T C hcd hcl fun f led' h' tk' F' N' R' s' t' => go_ok _ _ _ _ _ _ (ret f led' tk' R' s' t') _ ⟨h', rfl, F', N'⟩)⟩
theorem Site.units {A : Around} {L : Addr} {h₀ : Heap} {D0 U0 : Nat} (B : Site A L h₀ D0 U0) : A.units + U0 < cLine + 3 := by
  obtain ⟨dp, un, gd, cn, cs, a, ccd, cl, outer, A₀, base, e, _, _, _, hu⟩ := B
  subst e
  show un + U0 < cLine + 3
  omega
theorem ob_treeEq {a b : Addr} {ds : List Dat} {n : Nat} (ha : DatIn ns (.ref a) (.tuple ds)) (hb : DatIn ns (.ref b) (.tuple ds)) (hd : deps ds ≤ n) (hu : Nat.ble (n + 7) sc.U = true) (h : go X 300 (.ret (.v (.bool true))) K ml ns tk) : Ob X (.cmp .Eq (.ref a) (.ref b)) K ml ns tk :=
  ⟨fun s hR => by
    have e := X.site.units
    have u := Nat.le_of_ble_eq_true hu
    obtain ⟨h₁, e1, F, N⟩ := id hR
    exact tree_eq (by rw [e1]; exact N) ha hb (by omega) (go_ok _ _ _ _ _ _ h _ hR)⟩
end
end Mine
end
noncomputable section
open PySem PySem.W PyProof.Rows PySem.Calls
set_option Elab.async false
set_option maxRecDepth 100000
set_option maxHeartbeats 4000000
namespace Mine
noncomputable def nmL (l : List Nat) : Str := ⟨⟨l⟩⟩
/-- what is stored when the loop begins -/
noncomputable abbrev mlR (lo : Addr) (x : Str) (t : Tok) (lb lt lk : Addr) : Ml := [(⟨⟨[111, 112, 101, 114, 97, 110, 100, 115]⟩⟩, .ref lo), (⟨⟨[101, 110, 100]⟩⟩, .str x t), (⟨⟨[98, 101, 104, 105, 110, 100]⟩⟩, .ref lb), (⟨⟨[116, 114, 101, 101, 115]⟩⟩, .ref lt), (⟨⟨[116, 111, 107, 101, 110, 115]⟩⟩, .ref lk)]
structure ForV (base : News') (I lt : Addr) (D : List Dat) (TT : Toks) (vs : List Value) (is : List Nat) (lk : Addr) (ts : Toks) (tv : Array Value) (tn : Nat) (ds : List Dat) (led : News') : Prop where
  ops : OpsAll base vs is
  T : TokList led lk ts
  ne : lk ≠ lt
  tt : ts ++ flat is = TT
  nd : (led.map (·.1)).Nodup
  sub : ∀ x ∈ base, x ∈ led
  offI : ∀ x ∈ led, x.1 ≠ I
  ht : (lt, lstO tv tn) ∈ led
  hd : DatAll led tv.toList ds
  hn : noLs ds = true
  hD : ds ++ is.map itTree = D
  hz : tv.size + is.length ≤ 32
  hbt : ∀ x ∈ base, x.1 ≠ lt
  len : TT.length ≤ 900
theorem ForV.next {base : News'} {I lt : Addr} {D : List Dat} {TT : Toks} {t lk : Addr} {v : Value} {i : Nat} {vs : List Value} {is : List Nat} {led : News'} {D' : Addr} {ts : Toks} {tv its : Array Value} {kk tn : Nat} {ds : List Dat}
    (S : ForV base I lt D TT (.ref t :: vs) (i :: is) lk ts tv tn ds led)
    (ho : OpsAll base vs is) (hv : DatIn base v (itTree i)) (hi : i < 15)
    (lD : ∀ p ∈ led, p.1 < D') (lI : I < D') (T : TokList ((D', lstO its kk) :: led) D' (ts ++ itToks i)) :
    ForV base I lt D TT vs is D' (ts ++ itToks i) (tv.push v) (tn + 1) (ds ++ [itTree i]) ((D', lstO its kk) :: setAt led lt (lstO (tv.push v) (tn + 1))) := by
  have ht := S.ht
  have hz := S.hz
  have nlt : lt ≠ D' := Nat.ne_of_lt (lD _ ht)
  have nd' := nodup_above (o := lstO its kk) lD S.nd
  refine ⟨ho, ?_, nlt.symm, by rw [← S.tt, List.append_assoc]; rfl, ?_, fun x hx => .tail _ (mem_setAt (S.sub x hx) (S.hbt x hx)), ?_, .tail _ (mem_setAt_self ht), ?_, ?_, ?_, ?_, S.hbt, S.len⟩
  · rw [← setAt_cons (x := (D', lstO its kk)) nlt.symm]
    exact TokList.set nd' (.tail _ ht) nlt.symm T
  · rw [← setAt_cons (x := (D', lstO its kk)) nlt.symm, setAt_keys]; exact nd'
  · intro x hx
    rcases List.mem_cons.mp hx with rfl | hx
    · exact Nat.ne_of_gt lI
    · have : x.1 ∈ (setAt led lt (lstO (tv.push v) (tn + 1))).map (·.1) := List.mem_map.mpr ⟨x, hx, rfl⟩
      rw [setAt_keys] at this
      obtain ⟨y, hy, e⟩ := List.mem_map.mp this
      rw [← e]; exact S.offI y hy
  · rw [Array.toList_push]
    refine (DatAll.append (datAllMoved (setT S.nd ht) S.hd S.hn) (DatAll.one (datMoved (setT S.nd ht) (hv.mono S.sub) (it_noL i hi)))).mono fun x hx => .tail _ hx
  · rw [noLs_append, S.hn, noLs, noLs, it_noL i hi]; rfl
  · rw [← S.hD, List.map_cons, List.append_assoc]; rfl
  · rw [Array.size_push]; simp only [List.length_cons] at hz; omega
section
variable {G : Gl} {news : News'}
theorem kw_R29_1 : True := by
  (k_with "V tl" => ((fail_if_success k_extra "past R29"); (first
  | assumption
  | exact TokList.cons (by walk_at "V tl")
  | exact tl_mono (by assumption) (by walk_at "V tl"))))
  (k_with "V nod" => ((fail_if_success k_extra "past R29"); (first | exact nd9 S.nd | exact nodup_above (by assumption) (by walk_at "V nod"))))
  (k_with "V more" => ((fail_if_success k_extra "past R29"); (first
  | ((with_reducible show Ob _ (Tk.call (Value.ref 504) _) _ _ _ _); (first | (refine ob_newtl (hw _ _) rfl rfl ?_) | (refine ob_newtl (lw_D _ _ rfl) rfl rfl ?_)); intro lw n9 tk T9 s9 nd9)
  | ((with_reducible show Ob _ (Tk.exec (Stmt.For _ _ _ _ _)) _ _ _ _); refine ob_forT (by intro _; rfl) ?_)
  | ((with_reducible show Ob _ (Tk.ret _) (Kf.qv _ :: _) _ _ _); refine Stop.go ?_)
  | ((with_reducible show Ob _ (Tk.ret _) (Kf.q _ :: _) _ _ _); refine Stop.go ?_)
  | ((with_reducible show Ob _ (Tk.unp _ _ _ (Value.ref _)) _ _ _ _); (refine ob_unpT (.tail _ hti) rfl rfl ?_))
  | ((with_reducible show Ob _ (Tk.lst _) _ _ _ _); (refine ob_lst rfl ?_); intro Dt lA)
  | ((with_reducible show Ob _ (Tk.bin Operator.Add (Value.ref _) (Value.ref _)) _ _ _ _); first
    | ((refine ob_addToks (sub := led) (fun _ h => .tail _ h) T1 T2 hz1 ?_); intro D9 its9 k9 l9 T9 e9)
    | ((refine' ob_addToks (fun _ h => h) ?k4 ?k5 ?k6 ?_; (case k4 => walk_at "V tl"); (case k5 => walk_at "V tl"); (case k6 => first | omega | (simp only [List.length_append]; omega))); intro D9 its9 k9 l9 T9 e9))
  | ((with_reducible show Ob _ (Tk.meth (Value.ref _) (⟨⟨[97, 112, 112, 101, 110, 100]⟩⟩ : Str) _ _) _ _ _ _); refine ob_appM (.tail _ (.tail _ ht1)) rfl ?_)
  | ((with_reducible show Ob _ (Tk.call (Value.builtin "list.append") _) _ _ _ _); refine' ob_append (.tail (Nat.ne_of_gt (l9 _ (.tail _ ht1))) (.tail hI1 (upd_at S.nd ht1))) ?z9 ?_; (case z9 => exact Nat.le_trans (by omega : _ ≤ 64) (by decide)))
  | ((with_reducible show Ob _ (Tk.call (Value.ref 509) _) _ _ _ _); (refine' ob_lr ?T8 ?n8 hzF ?t8 rfl rfl ?_; (case T8 => walk_at "V tl"); (case n8 => walk_at "V nod"); (case t8 => exact TabOk.mono tab0 (fun x8 h8 => .tail _ (.tail _ (s9 _ (S.sub _ h8)))))); intro r1 q1 pt1 n1 tk R1 s1 a1)
  | ((with_reducible show Ob _ (Tk.ev (PySem.Expr.Lambda _ _ _ _)) _ _ _ _); (refine' ob_lamP R1 ?H8 ?P8 (lam_codeR X.X) rfl rfl rfl ?_; (case P8 => decide); (case H8 => exact TabP.mono (pos := posR) tabR0 (fun x8 h8 => s1 _ (.tail _ (.tail _ (s9 _ (S.sub _ h8))))))); intro f2 n2 tk R2 sP tR)
  | ((with_reducible show Ob _ (Tk.call (Value.ref 265) _) _ _ _ _); have hsub : ∀ x ∈ led, x ∈ n1 := fun x h => s1 x (.tail _ (.tail _ (s9 x h))); have aP : ∀ x ∈ led, x.1 < q1.dr := fun x h => a1 x (.tail _ (.tail _ (s9 x h))); have tP : TabP 525 posR n1 := TabP.mono tabR0 (fun ps h => hsub _ (S.sub _ h)); have hmP := sP _ (hsub _ ht1) (tab_lt tP R1.nodup (hsub _ ht1)); have hdP := datAllTab tP R1.nodup sP (S.hd.mono hsub) S.hn; have hTP := TokList.tabbed tP R1.nodup sP (T1.mono hsub); refine ob_call (rd_c R2 sm _ i₀ js₀ hltA (Nat.le_trans hlenA (by decide)) t0A hatA hpeA hNA hbA hEA) rfl rfl ?_; intro v9 n3 tk p9; obtain ⟨⟨pt3, R3, K3⟩, z3⟩ := p9; obtain ⟨Dr, y9⟩ := datRef z3; subst y9; have hm3 := keepL R2 K3 hmP; have hd3 := datAllKept K3 R2 hdP S.hn; have TK3 := TokList.kept K3 R2 hTP)
  | ((with_reducible show Ob _ (Tk.call (Value.type "tuple") [Value.ref _]) _ _ _ _); (refine ob_tupleOf hm3 rfl (Nat.le_trans (by omega : _ ≤ 64) (by decide)) ?_); intro Dq lq)
  | ((with_reducible show Ob _ (Tk.cmp CmpOp.Eq (Value.ref _) (Value.ref _)) _ _ _ _); refine ob_treeEq (ds := [Dat.str (Str.ofString "display"), Dat.tuple ((i₀ :: js₀).map itTree), Dat.bool eb]) (z3.mono fun _ h => .tail _ (.tail _ h)) (.tuple (.head _) (.cons (.str _ _) (.cons (.tuple (.tail _ (.head _)) (hd3.mono fun _ h => .tail _ (.tail _ h))) (.cons hxb .nil)))) (disp_dep hltA _ eb) rfl ?_))))
  trivial
theorem right_c (lo : Addr) (x : Str) (t : Tok) (lb : Addr) {ops : Array Value} {no : Nat} {i₀ : Nat} {js₀ : List Nat} {ets bts : Toks} {eb : Bool} (hmo0 : (lo, lstO ops no) ∈ news) (ho : OpsAll news ops.toList (i₀ :: js₀)) (hlenA : js₀.length ≤ 14) (hlenT : ((sWord, wDISPLAY) :: flat (i₀ :: js₀)).length ≤ 900) (nd0 : (news.map (·.1)).Nodup)
    (tab0 : TabOk news) (tabR0 : TabP 525 posR news) (hbT : TokList news lb bts) (hw : ∀ (led : News') (tt : Tok), Con G 504 [.str x tt] led 4 40 (fun news' v => NewTL led ets news' v))
    (hltA : ∀ i ∈ i₀ :: js₀, i < 15) (hx0 : (x != sEmpty) = eb) (hze : ets.length ≤ 8) (hzb : bts.length ≤ 8) (sm : Small (((sWord, wDISPLAY) :: flat (i₀ :: js₀)) ++ ets ++ bts))
    (hNA : NextOk (((sWord, wDISPLAY) :: flat (i₀ :: js₀)) ++ ets ++ bts) (1 + (flat (i₀ :: js₀)).length)) (hbA : beginsB G.w.params (((sWord, wDISPLAY) :: flat (i₀ :: js₀)) ++ ets ++ bts) (1 + (flat (i₀ :: js₀)).length) = false)
    (hEA : EndIs (((sWord, wDISPLAY) :: flat (i₀ :: js₀)) ++ ets ++ bts) (1 + (flat (i₀ :: js₀)).length) eb ets.length) :
    Con G 530 [.ref lo, .str x t, .ref lb] news 60 400 (fun news' v => v = .bool true ∧ LBk 525 posR news news') := by
  have hzF : (((sWord, wDISPLAY) :: flat (i₀ :: js₀)) ++ ets ++ bts).length < 1024 := by rw [List.length_append, List.length_append]; omega
  have t0A : (((sWord, wDISPLAY) :: flat (i₀ :: js₀)) ++ ets ++ bts)[0]? = some (sWord, wDISPLAY) := rfl
  have hatA : At (((sWord, wDISPLAY) :: flat (i₀ :: js₀)) ++ ets ++ bts) 1 (flat (i₀ :: js₀)) := by
    have := At.of (a := [(sWord, wDISPLAY)]) (l := flat (i₀ :: js₀)) (b := ets ++ bts)
    rw [show ((sWord, wDISPLAY) :: flat (i₀ :: js₀)) ++ ets ++ bts = [(sWord, wDISPLAY)] ++ (flat (i₀ :: js₀) ++ (ets ++ bts)) by simp]
    exact this
  have hxb : ∀ {led : News'}, DatIn led (.bool (x != sEmpty)) (Dat.bool eb) := by intro led; rw [hx0]; exact .bool _
  have hpeA : 1 + (flat (i₀ :: js₀)).length = 1 + (flat (i₀ :: js₀)).length := rfl
  walk_at "V enter"
  walk_at "V steps"
  refine Stop.mk (ob_iterT (its := ops) (n := no) (.tail _ (.tail _ (s9 _ hmo0))) fun I9 L9 => ?_)
  refine forT_ind (Inv := fun vs ml led => ∃ is lk ts tv tn ds, ForV news I9 Dt ((i₀ :: js₀).map itTree) ((sWord, wDISPLAY) :: flat (i₀ :: js₀)) vs is lk ts tv tn ds led ∧ (ml = mlR lo x t lb Dt lk ∨ ∃ a b, ml = mlR lo x t lb Dt lk ++ [(⟨⟨[109, 111, 114, 101]⟩⟩, a), (⟨⟨[116, 114, 101, 101]⟩⟩, b)])) ?step _ _ _ ?inv
  case inv =>
    refine ⟨i₀ :: js₀, lw, [(sWord, wDISPLAY)], #[], 0, [], ⟨ho, TokList.cons (TokList.cons T9), ?_, rfl, nodup_above l9 (nodup_above lA (nd9 nd0)), fun x h => .tail _ (.tail _ (s9 x h)), fun x hx => Nat.ne_of_lt (L9 x hx), .tail _ (.head _), .nil, rfl, rfl, ?_, fun x hx => Nat.ne_of_lt (lA x (s9 x hx)), hlenT⟩, .inl rfl⟩
    · obtain ⟨_, _, q, _⟩ := T9.ex
      exact Nat.ne_of_lt (lA _ q)
    · (show 0 + (js₀.length + 1) ≤ 32); omega
  clear T9 nd9 s9
  intro vs ml led S IH
  obtain ⟨is, lk, ts, tv, tn, ds, S, hml⟩ := S
  have hops := S.ops
  have T1 := S.T
  have ht1 := S.ht
  have hI1 : I9 ≠ Dt := (S.offI _ ht1).symm
  have hzt := S.hz
  cases hops with
  | nil =>
    intro tk
    have hTT' : ts = (sWord, wDISPLAY) :: flat (i₀ :: js₀) := by simpa using S.tt
    have hD' : ds = (i₀ :: js₀).map itTree := by simpa using S.hD
    subst hTT' hD'
    have TB := hbT.mono S.sub
    rcases hml with hml | ⟨a, b, hml⟩ <;> subst hml
    all_goals (walk_at "V steps")
    all_goals (refine End.less (fun x h => .tail _ (s9 x (.tail _ (.tail _ h)))) (hret n3 _ ⟨?_, right_fin (by decide) S.sub hsub sP aP K3 R3 tR tabR0⟩))
    all_goals (
      have hv9 : 1 + (flat (i₀ :: js₀)).length + ets.length = its9.size := by rw [e9, List.length_cons]; omega
      rw [hv9]
      exact congrArg Value.bool (beq_self_eq_true _))
  | @cons ti li vi ni i vs' js' h1 h2 h3 h4 h5 =>
    have T2 := h2.mono S.sub
    have hz1 : ts.length + (itToks i).length ≤ 1024 := by
      have := congrArg List.length S.tt
      rw [List.length_append, show flat (i :: js') = itToks i ++ flat js' from rfl, List.length_append] at this
      omega
    have hti : (ti, tupK #[.ref li, vi] ni) ∈ led := S.sub _ h1
    intro it tk Q hQ
    rcases hml with hml | ⟨a, b, hml⟩ <;> subst hml
    all_goals (walk_at "V steps")
    all_goals (
      have S' := S.next (its := its9) (kk := k9) h5 h3 h4 (fun p hp => l9 p (.tail _ hp)) (l9 _ (.head _)) T9
      refine Stop.mk (hQ _ _ ((D9, lstO its9 k9) :: setAt led Dt (lstO (tv.push vi) (tn + 1))) _ (.tail _ (.head _)) (fun p hp => ?_) S'.offI (.tail _ (mem_setAt (S.sub _ hmo0) (S.hbt _ hmo0))) (IH _ _ rfl _ _ ⟨js', D9, _, _, _, _, S', .inr ⟨_, _, rfl⟩⟩))
      rcases List.mem_cons.mp hp with hp | hp
      · rw [hp]; exact .head _
      · exact .tail _ (.tail _ hp))
end
theorem kw_R29_end : True := by
  (k_with "past R29" => skip)
  trivial
end Mine
end
noncomputable section
open PySem PySem.W PyProof.Rows PySem.Calls
set_option Elab.async false
set_option maxRecDepth 100000
set_option maxHeartbeats 4000000
namespace Mine
theorem setAt_setAt (l : News') (d : Addr) (o o' : Obj) : setAt (setAt l d o) d o' = setAt l d o' := by
  unfold setAt
  rw [List.map_map]
  refine List.map_congr_left fun x _ => ?_
  show (if (if x.1 = d then (d, o) else x).1 = d then (d, o') else (if x.1 = d then (d, o) else x)) = if x.1 = d then (d, o') else x
  by_cases h : x.1 = d
  · simp [h]
  · simp [h]
/-- the pen -/
structure PenAt (news : News') (pl : Addr) (n : Nat) (cl : Addr) (t : Int) (ta : Tok) (r : Int) (ra : Tok) : Prop where
  hp : (pl, lstO #[.ref cl, .int t ta, .int r ra] n) ∈ news
  ex : ∃ vs k ns, (cl, lstO vs k) ∈ news ∧ IntsAre vs.toList ns ∧ (∀ c ∈ ns, 0 ≤ c) ∧ vs.size ≤ 30
  ne : cl ≠ pl
  t0 : 0 ≤ t
  t1 : t ≤ 200
theorem at3_0 (a b c : Value) : (#[a, b, c])[Int.toNat 0]? = some a := rfl
theorem at3_1 (a b c : Value) : (#[a, b, c])[Int.toNat 1]? = some b := rfl
theorem at3_2 (a b c : Value) : (#[a, b, c])[Int.toNat 2]? = some c := rfl
theorem intsAre_at : ∀ {vs : List Value} {ns : List Int}, IntsAre vs ns → (∀ c ∈ ns, 0 ≤ c) → ∀ {i : Nat}, i < vs.length → ∃ c u, vs[i]? = some (.int c u) ∧ 0 ≤ c
  | _, _, .nil, _, i, h => by simp at h
  | _, _, .cons n t z, h0, 0, _ => ⟨n, t, rfl, h0 n (.head _)⟩
  | _, _, .cons n t z, h0, i + 1, h => by
    obtain ⟨c, u, e, p⟩ := intsAre_at z (fun c hc => h0 c (.tail _ hc)) (by simpa using h)
    exact ⟨c, u, by simpa using e, p⟩
section
variable {G : Gl} {news : News'}
section
variable {prog : Program} {A : Around} {E : Value → Shared → Prop} {s : Shared} {h₀ : Heap} {L : Addr} {m : Str → Option Value} {pl : Addr} {n : Nat} {x y z v o : Value} {o' : Obj} {u : Tok} {Q : Unit → Shared → Prop}
theorem pen_1 (F : Fr h₀ L s.heap m) (N : News h₀ L s.heap news) (hnd : (news.map (·.1)).Nodup) (hp : (pl, lstO #[x, y, z] n) ∈ news) (h : ∀ h', Fr h₀ L h' m → News h₀ L h' (setAt news pl (lstO #[x, v, z] n)) → Q () { s with heap := h' }) :
    wpAny (model prog w) A (setItem (.ref pl) (.int 1 u) v) Q E s := ki_set (its := #[x, y, z]) (q := [x, v, z]) F N (by decide) (by decide) rfl (upd_at hnd hp) h
theorem pen_2 (F : Fr h₀ L s.heap m) (N : News h₀ L s.heap news) (hnd : (news.map (·.1)).Nodup) (hp : (pl, lstO #[x, y, z] n) ∈ news) (h : ∀ h', Fr h₀ L h' m → News h₀ L h' (setAt news pl (lstO #[x, y, v] n)) → Q () { s with heap := h' }) :
    wpAny (model prog w) A (setItem (.ref pl) (.int 2 u) v) Q E s := ki_set (its := #[x, y, z]) (q := [x, y, v]) F N (by decide) (by decide) rfl (upd_at hnd hp) h
theorem pen_22 (F : Fr h₀ L s.heap m) (N : News h₀ L s.heap (setAt news pl (lstO #[x, y, z] n))) (hnd : (news.map (·.1)).Nodup) (hp : (pl, o') ∈ news) (h : ∀ h', Fr h₀ L h' m → News h₀ L h' (setAt news pl (lstO #[x, y, v] n)) → Q () { s with heap := h' }) :
    wpAny (model prog w) A (setItem (.ref pl) (.int 2 u) v) Q E s := pen_2 F N (by rw [setAt_keys]; exact hnd) (mem_setAt_self hp) (fun h' F' N' => h h' F' (by rw [setAt_setAt] at N'; exact N'))
end
theorem kw_R31_1 : True := by
  (k_with "setItem ref int" => ((fail_if_success k_extra "past R31"); ((k_here; first | ((with_reducible show wpAny _ _ (setItem (Value.ref _) (Value.int 1 _) _) _ _ _); k_dflt (refine' pen_1 ?F9 ?N9 hnd hp ?_; (case F9 => k_asm); (case N9 => k_asm))) | ((with_reducible show wpAny _ _ (setItem (Value.ref _) (Value.int 2 _) _) _ _ _); k_dflt (first | (refine' pen_22 ?F9 ?N9 hnd hp ?_; (case F9 => k_asm); (case N9 => with_reducible assumption)) | (refine' pen_2 ?F9 ?N9 hnd hp ?_; (case F9 => k_asm); (case N9 => with_reducible assumption)))); intro h9 F9 N9; k_sweep))))
  (k_with "k_mem" => ((fail_if_success k_extra "past R31"); (first | with_reducible assumption | exact mem_setAt_self hp | exact mem_setAt hc hne | exact mem_setAt hc hne)))
  (k_with "call builtin:len" => ((fail_if_success k_extra "past R31"); ((k_here; (with_reducible show wpAny _ _ (call (Value.builtin "len") [Value.ref _]) _ _ _); k_dflt (refine' len_at (isList_news ?k1 ?k2) ?k3 ?_; (case k1 => k_asm); (case k2 => k_mem); (case k3 => omega); k_whole)))))
  (k_with "subscriptTail" => ((fail_if_success k_extra "past R31"); ((k_here; (with_reducible show wpAny _ _ (subscriptTail _ _ (Value.ref _) (Value.int _ _)) _ _ _); k_dflt (refine' item_at (isList_news ?k1 ?k2) ?k3 ?k4 ?k5 ?_; (case k1 => k_asm); (case k2 => k_mem); (case k3 => omega); (case k4 => omega); (case k5 => walk_at "MINE item"); k_whole)))))
  (k_with "subscriptTail Name Name ref int" => ((fail_if_success k_extra "past R31"); (walk_at "subscriptTail")))
  (k_with "MINE item" => ((fail_if_success k_extra "past R31"); (first | exact hit | exact at3_2 _ _ _ | exact at3_1 _ _ _ | exact at3_0 _ _ _)))
  (k_with "call builtin:sum" => ((fail_if_success k_extra "past R31"); ((k_here; (with_reducible show wpAny _ _ (call (Value.builtin "sum") [Value.ref _]) _ _ _); k_dflt (refine' sumK (vs := vs.toList) (ns := ns) rfl ?k0 ?k1 (isList_news ?k3 ?k2) hi ?_; (case k0 => k_asm); (case k1 => k_asm); (case k3 => k_asm); (case k2 => k_mem)); intro h9 tk9 t9 F9 N9; k_sweep))))
  (k_with "binaryOp Mod int int" => ((fail_if_success k_extra "past R31"); ((k_here; k_dflt (refine' mod_int' ?k1 ?_; (case k1 => omega))))))
  (k_with "binaryOp Pow int int" => ((fail_if_success k_extra "past R31"); ((k_here; k_dflt (refine' pow_int_small ?k1 ?k2 ?k3 ?_; (case k1 => omega); (case k2 => omega); (case k3 => omega))))))
  (k_with "binaryOp FloorDiv int int" => ((fail_if_success k_extra "past R31"); ((k_here; k_dflt (refine' floordiv_int ?k1 ?_ (Or.inl (PyProof.noPylong_small ?k2)); (case k1 => omega); (case k2 => omega))))))
  trivial
theorem fmod_in {a b : Int} (h : 0 < b) : 0 ≤ a.fmod b ∧ a.fmod b < b := ⟨Int.fmod_nonneg_of_pos a h, Int.fmod_lt_of_pos a h⟩
set_option maxHeartbeats 600000 in
theorem draw_c {pl cl : Addr} {n : Nat} {t r : Int} {ta ra : Tok} (S : PenAt news pl n cl t ta r ra) (hnd : (news.map (·.1)).Nodup) (many : Int) (mt : Tok) (hm0 : 0 < many) (hm1 : many ≤ 16) :
    Con G 492 [.ref pl, .int many mt] news 6 60 (fun news' v => ∃ d u t' ta' r' ra', v = .int d u ∧ 0 ≤ d ∧ d < many ∧ news' = setAt news pl (lstO #[.ref cl, .int t' ta', .int r' ra'] n) ∧ 0 ≤ t' ∧ t' ≤ t + 1) := by
  obtain ⟨hp, ⟨vs, k, ns, hc, hi, h0, hlen⟩, hne, t0, t1⟩ := S
  by_cases hr : r = 0
  · subst hr
    by_cases ht : t < vs.size
    · obtain ⟨c, u, hit', hc0⟩ := intsAre_at hi h0 (i := t.toNat) (by rw [Array.length_toList]; omega)
      have hit : vs[t.toNat]? = some (.int c u) := by rw [← hit', Array.getElem?_toList]
      by_cases hf : c > many
      · walk_at "MINE enter"
        rw [sw_len, sw_sum]
        k_steps
        walk_at "MINE end"
        exact ⟨_, _, _, _, _, _, rfl, (fmod_in hm0).1, (fmod_in hm0).2, rfl, by omega, by omega⟩
      · walk_at "MINE enter"
        rw [sw_len, sw_sum]
        k_steps
        walk_at "MINE end"
        exact ⟨_, _, _, _, _, _, rfl, (fmod_in hm0).1, (fmod_in hm0).2, rfl, by omega, by omega⟩
    · have hf : ¬ ((0 : Int) > many) := by omega
      walk_at "MINE enter"
      rw [sw_len, sw_sum]
      k_steps
      walk_at "MINE end"
      exact ⟨_, _, _, _, _, _, rfl, (fmod_in hm0).1, (fmod_in hm0).2, rfl, by omega, by omega⟩
  · have hr' : (r == 0) = false := by simpa using hr
    walk_at "MINE enter"
    rw [sw_len, sw_sum]
    k_steps
    walk_at "MINE end"
    exact ⟨_, _, _, _, _, _, rfl, (fmod_in hm0).1, (fmod_in hm0).2, rfl, by omega, by omega⟩
end
theorem kw_R31_end : True := by
  (k_with "past R31" => skip)
  trivial
end Mine
end
noncomputable section
open PySem PySem.W PyProof.Rows PySem.Calls
set_option Elab.async false
set_option maxRecDepth 100000
set_option maxHeartbeats 4000000
namespace Mine
section
variable {G : Gl} {news : News'}
theorem kw_R32_1 : True := by
  (k_with "MINE call" => ((fail_if_success k_extra "past R32"); (((with_reducible show wpAny _ _ (call (Value.ref 492) _ _) _ _ _); refine' con_use (draw_c S hnd _ _ hz0 hz1) ?B9 ?F9 ?X9 ?N9 ?T9 ?K9 ?D9 ?U9 ?_; walk_at "MINE use"; intro r9 news9 h9 tk9 F9 N9 p9; obtain ⟨d9, u9, t9, ta9, rr9, ra9, x9, dl9, du9, y9, l9, b9⟩ := p9; subst x9; subst y9; obtain ⟨v9, hit⟩ := ith d9 dl9 du9; k_sweep))))
  (k_with "k_mem" => ((fail_if_success k_extra "past R32"); (first | with_reducible assumption | exact mem_setAt hl hne)))
  (k_with "call builtin:len" => ((fail_if_success k_extra "past R32"); ((k_here; (with_reducible show wpAny _ _ (call (Value.builtin "len") [Value.ref _]) _ _ _); k_dflt (refine' len_at (isList_news ?k1 ?k2) ?k3 ?_; (case k1 => k_asm); (case k2 => exact hl); (case k3 => omega); k_whole)))))
  (k_with "subscriptTail" => ((fail_if_success k_extra "past R32"); ((k_here; (with_reducible show wpAny _ _ (subscriptTail _ _ (Value.ref _) (Value.int _ _)) _ _ _); k_dflt (refine' item_at (isList_news ?k1 ?k2) ?k3 ?k4 ?k5 ?_; (case k1 => k_asm); (case k2 => k_mem); (case k3 => omega); (case k4 => omega); (case k5 => walk_at "MINE item"); k_whole)))))
  (k_with "subscriptTail Name Name ref int" => ((fail_if_success k_extra "past R32"); (walk_at "subscriptTail")))
  (k_with "subscriptTail Name Call ref int" => ((fail_if_success k_extra "past R32"); (walk_at "subscriptTail")))
  (k_with "MINE item" => ((fail_if_success k_extra "past R32"); (exact hit)))
  trivial
set_option maxHeartbeats 1000000 in
theorem pick_c {pl cl sl : Addr} {n k : Nat} {t r : Int} {ta ra : Tok} {its : Array Value} (S : PenAt news pl n cl t ta r ra) (hnd : (news.map (·.1)).Nodup) (hl : (sl, lstO its k) ∈ news) (hne : sl ≠ pl) (h0 : 0 < its.size) (h1 : its.size ≤ 16) :
    Con G 499 [.ref pl, .ref sl] news 10 80 (fun news' v => ∃ t' ta' r' ra', ∃ i : Nat, news' = setAt news pl (lstO #[.ref cl, .int t' ta', .int r' ra'] n) ∧ 0 ≤ t' ∧ t' ≤ t + 1 ∧ its[i]? = some v) := by
  have hz0 : (0 : Int) < its.size := by omega
  have hz1 : (its.size : Int) ≤ 16 := by omega
  have ith : ∀ d : Int, 0 ≤ d → d < its.size → ∃ v, its[d.toNat]? = some v := fun d a b => ⟨_, Array.getElem?_eq_getElem (i := d.toNat) (by omega)⟩
  walk_at "MINE enter"
  rw [sw_len]
  k_steps
  walk_at "MINE end"
  exact ⟨_, _, _, _, _, rfl, by assumption, by assumption, hit⟩
end
theorem kw_R32_end : True := by
  (k_with "past R32" => skip)
  trivial
end Mine
end
noncomputable section
open PySem PySem.W PyProof.Rows PySem.Calls
set_option Elab.async false
namespace Mine
/-- dicts and classes stay where they are -/
noncomputable def KD (h h' : Heap) : Prop := ∀ b o, h.get? b = some o → ∃ o', h'.get? b = some o' ∧ o'.dict = o.dict
theorem KD.refl (h : Heap) : KD h h := fun b o e => ⟨o, e, rfl⟩
theorem KD.trans {a b c : Heap} (x : KD a b) (y : KD b c) : KD a c := fun d o e => by
  obtain ⟨o', e', q⟩ := x d o e
  obtain ⟨o'', e'', q'⟩ := y d o' e'
  exact ⟨o'', e'', q'.trans q⟩
noncomputable def Tame (f : Obj → Obj) : Prop := ∀ o, (f o).dict = o.dict ∧ (o.isFreed = false → (f o).isFreed = false)
noncomputable def Calm {α : Type} : Sem α → Prop
  | .pure _ => True
  | .raise _ => True
  | .unsupported _ => True
  | .finish _ => True
  | .rule _ k => Calm (k ())
  | .at _ k => Calm (k ())
  | .load _ _ k => ∀ o, Calm (k o)
  | .update _ _ f k => Tame f ∧ Calm (k ())
  | .alloc _ k => ∀ x, Calm (k x)
  | .loadIfAlive _ k => ∀ x, Calm (k x)
  | .point _ k => Calm (k ())
  | .register _ _ => True
  | .fresh k => ∀ x, Calm (k x)
  | .ask k => ∀ x, Calm (k x)
  | .choose _ _ k => ∀ x, Calm (k x)
  | .os _ _ k => ∀ x, Calm (k x)
  | .call _ _ _ _ _ => False
  | .handled _ k => ∀ x, Calm (k x)
  | .newGen _ k => ∀ x, Calm (k x)
  | .genState _ k => ∀ x, Calm (k x)
  | .resume _ _ _ _ => False
  | .yield _ _ _ _ => True
  | .stack k => ∀ x, Calm (k x)
  | .fork _ _ => True
  | .thread k => ∀ x, Calm (k x)
  | .await _ _ _ _ _ => True
theorem kd_push (h : Heap) (o : Obj) : KD h (h.push o) := fun b x e => ⟨x, Heap.get?_push_of_some _ e, rfl⟩
theorem kd_update {h : Heap} {a : Addr} {f : Obj → Obj} (t : Tame f) : KD h (h.update a f) := fun b x e => by
  by_cases hb : a = b
  · subst hb
    have hf : x.isFreed = false := (Heap.get?_some_iff.mp e).2
    exact ⟨f x, Heap.get?_update_self f e ((t x).2 hf), (t x).1⟩
  · exact ⟨x, (Heap.get?_update_other _ _ hb).trans e, rfl⟩
theorem calm_bind {α β : Type} {t : Sem α} {k : α → Sem β} (c : Calm t) (ck : ∀ a, Calm (k a)) : Calm (t >>= k) := by
  show Calm (t.bind k)
  induction t <;> simp only [Sem.bind, Calm] at c ⊢
  all_goals first | exact ck _ | trivial | (rename_i ih; exact ih _ c) | (rename_i ih; exact fun x => ih x (c x)) | (rename_i ih; exact ⟨c.1, ih _ c.2⟩) | exact c.elim
theorem calm_wp {α : Type} {M : Model} {Γ : Ctx} {t : Sem α} {Q : α → Pos → Shared → Prop} {E : Value → Pos → Shared → Prop} {b : Heap} (c : Calm t) : ∀ {p : Pos} {s : Shared}, KD b s.heap → Sem.wp M Γ t Q E p s →
    Sem.wp M Γ t (fun a p' s' => Q a p' s' ∧ KD b s'.heap) (fun e p' s' => E e p' s' ∧ KD b s'.heap) p s := by
  induction t with
  | pure a => exact fun k h => by simp only [Sem.wp] at h ⊢; exact ⟨h, k⟩
  | raise e => exact fun k h => by simp only [Sem.wp] at h ⊢; exact ⟨h, k⟩
  | update a p f k ih => exact fun kk h => by simp only [Sem.wp] at h ⊢; exact ⟨h.1, ih _ c.2 (kk.trans (kd_update c.1)) h.2⟩
  | alloc o k ih => exact fun kk h => by simp only [Sem.wp] at h ⊢; exact ih _ (c _) (kk.trans (kd_push _ _)) h
  | load a p k ih => exact fun kk h => by simp only [Sem.wp] at h ⊢; obtain ⟨o, e, h⟩ := h; exact ⟨o, e, ih _ (c _) kk h⟩
  | choose src n k ih => exact fun kk h => by simp only [Sem.wp] at h ⊢; exact ⟨h.1, ih _ (c _) kk h.2⟩
  | genState g k ih => exact fun kk h => by simp only [Sem.wp] at h ⊢; obtain ⟨o, e, h⟩ := h; exact ⟨o, e, ih _ (c _) kk h⟩
  | call => exact c.elim
  | resume => exact c.elim
  | rule t k ih => exact fun kk h => by simp only [Sem.wp] at h ⊢; exact ih _ c kk h
  | «at» q k ih => exact fun kk h => by simp only [Sem.wp] at h ⊢; exact ih _ c kk h
  | point l k ih => exact fun kk h => by simp only [Sem.wp] at h ⊢; exact ih _ c kk h
  | loadIfAlive a k ih => exact fun kk h => by simp only [Sem.wp] at h ⊢; exact ih _ (c _) kk h
  | fresh k ih => exact fun kk h => by simp only [Sem.wp] at h ⊢; exact ih _ (c _) kk h
  | ask k ih => exact fun kk h => by simp only [Sem.wp] at h ⊢; exact ih _ (c _) kk h
  | os q l k ih => exact fun kk h => by simp only [Sem.wp] at h ⊢; exact ih _ (c _) kk h
  | handled o k ih => exact fun kk h => by simp only [Sem.wp] at h ⊢; exact ih _ (c _) kk h
  | newGen cc k ih => exact fun kk h => by simp only [Sem.wp] at h ⊢; exact ih _ (c _) kk h
  | stack k ih => exact fun kk h => by simp only [Sem.wp] at h ⊢; exact ih _ (c _) kk h
  | thread k ih => exact fun kk h => by simp only [Sem.wp] at h ⊢; exact ih _ (c _) kk h
  | unsupported x => exact fun kk h => by simp only [Sem.wp] at h
  | finish x => exact fun kk h => by simp only [Sem.wp] at h
  | register x k => exact fun kk h => by simp only [Sem.wp] at h
  | yield => exact fun kk h => by simp only [Sem.wp] at h
  | fork => exact fun kk h => by simp only [Sem.wp] at h
  | await => exact fun kk h => by simp only [Sem.wp] at h
theorem calm_any {α : Type} {M : Model} {A : Around} {t : Sem α} {Q : α → Shared → Prop} {E : Value → Shared → Prop} {s : Shared} (c : Calm t) (h : wpAny M A t Q E s) :
    wpAny M A t (fun a s' => Q a s' ∧ KD s.heap s'.heap) (fun e s' => E e s' ∧ KD s.heap s'.heap) s := fun Γ p i => calm_wp c (KD.refl _) (h Γ p i)
theorem tame_fields (f : Array Value → Array Value) : Tame (Obj.mapFields f) := fun o => by
  obtain ⟨c, d, x, sl⟩ := o
  cases x <;> exact ⟨rfl, fun h => h⟩
theorem calm_pure {α : Type} (a : α) : Calm (pure a : Sem α) := trivial
theorem calm_field (v : Value) (i : Nat) : Calm (field v i) := by
  unfold field fieldsOf
  refine calm_bind ?_ fun a => ?_
  · split
    · refine calm_bind (fun o => trivial) fun o => ?_
      split <;> trivial
    · trivial
  · split <;> trivial
theorem calm_setField (v : Value) (i : Nat) (x : Value) : Calm (setField v i x) := by
  unfold setField updateField
  split
  · refine calm_bind (fun o => trivial) fun o => ?_
    split
    · split
      · exact ⟨tame_fields _, trivial⟩
      · trivial
    · trivial
  · trivial
theorem calm_setFlight (e : Value) (f : Option Addr) : Calm (setFlight e f) := by
  unfold setFlight
  refine calm_bind (calm_field _ _) fun a => ?_
  split
  · exact calm_setField _ _ _
  · trivial
theorem calm_stack : Calm stack := fun _ => trivial
theorem calm_back (env : Env) (b : Bool) (l : List Env) : Calm (keptBack env b l) := by
  unfold keptBack
  split
  · split
    · trivial
    · refine calm_bind ?_ fun _ => trivial
      unfold underTheClaimsCaller
      exact calm_bind calm_stack fun _ => trivial
  · trivial
theorem calm_import (env : Env) (l : List Env) : Calm (behindIsImport env l) := by
  unfold behindIsImport
  split
  · trivial
  · split
    · trivial
    · exact calm_bind (calm_field _ _) fun _ => trivial
theorem calm_ready : ∀ l : List Env, Calm (readyFrames l)
  | [] => trivial
  | env :: outer => by
    unfold readyFrames
    split
    · refine calm_bind (fun o => trivial) fun o => ?_
      split
      · trivial
      · exact calm_bind (calm_import _ _) fun _ => calm_bind (calm_back _ _ _) fun _ => calm_bind ⟨fun o => ⟨rfl, fun h => by obtain ⟨c, d, x, sl⟩ := o; cases x <;> exact h⟩, trivial⟩ fun _ => calm_ready outer
    · trivial
theorem calm_frameOf (env : Env) : Calm (PySem.frameOf env) := by
  unfold PySem.frameOf frameEnvs
  refine calm_bind (calm_bind calm_stack fun _ => trivial) fun a => calm_bind ?_ fun x => ?_
  · unfold frameObject
    split
    · trivial
    · exact calm_bind (calm_ready _) fun _ => trivial
  · split <;> trivial
theorem calm_entry (a b c d e : Value) (p : List Value) : Calm (EntryCells.newEntry a b c d e p) := by
  unfold EntryCells.newEntry newFields newObj
  dsimp only
  have as : ∀ z, Calm (newObjAsIs (.type "traceback") z) := fun z => fun _ => trivial
  split <;> split <;> first | exact as _ | exact calm_bind (t := unsupported "record:memory") trivial fun _ => as _
theorem calm_note (e : Value) (env : Env) : Calm (noteFrame e env) := by
  unfold noteFrame
  split
  · rename_i f hf
    refine calm_bind (calm_field _ _) fun h => ?_
    have rest : Calm (do let fr ← PySem.frameOf env; let pl ← entryPlaceOf f (h != .none); let x ← EntryCells.newEntry h fr .none (rawInt f) .none pl; setField e 1 x) :=
      calm_bind (calm_frameOf _) fun _ => calm_bind (calm_bind calm_stack fun _ => by split <;> trivial) fun _ => calm_bind (calm_entry _ _ _ _ _ _) fun _ => calm_setField _ _ _
    split
    · refine calm_bind (calm_field _ _) fun _ => ?_
      split
      · trivial
      · exact calm_bind (calm_setField _ _ _) fun _ => rest
    · exact rest
  · trivial
theorem calm_leaving (env : Env) (e : Value) : Calm (leaving env e) := calm_bind (calm_note _ _) fun _ => calm_setFlight _ _
end Mine
end
noncomputable section
open PySem PySem.W PyProof.Rows PySem.Calls PySem.Spec PySem.Builtin PySem.Builtin.ObjectAttr
set_option Elab.async false
set_option maxRecDepth 100000
namespace Mine
noncomputable abbrev bmB : List Value := [.type "Exception", .type "BaseException", .type "object"]
set_option maxHeartbeats 1000000 in
theorem cls72 (P : Params) : ∃ nm q bs sn sub ab col dd k0 k1 k2 k3 k5, (KN P).lookup 72 = some (excClassObj nm q 72 71 bs (.ref 47 :: bmB) true sn sub ab col dd k0 k1 k2 k3 k5 "Exception.__new__") := ⟨_, _, _, _, _, _, _, _, _, _, _, _, _, rfl⟩
set_option maxHeartbeats 1000000 in
theorem cls47 (P : Params) : ∃ c0 dd cd sl, (KN P).lookup 47 = some { cls := c0, dict := dd, data := .cls cd, slots := sl } ∧ cd.ns = 46 := ⟨_, _, _, _, rfl, rfl⟩
set_option maxHeartbeats 1000000 in
theorem clsIn72 (P : Params) : ∃ cd, clsIn (KN P) 72 = some cd ∧ cd.mro = .ref 72 :: .ref 47 :: bmB ∧ cd.hasDict = true := ⟨_, rfl, rfl, rfl⟩
theorem ns71 (P : Params) : nsOkIn (KN P) 71 = true := by kernel_rfl!
theorem ns46 (P : Params) : nsOkIn (KN P) 46 = true := by kernel_rfl!
theorem init71 (P : Params) : nsIn (KN P) 71 "__init__" = some none := by kernel_rfl!
theorem init46 (P : Params) : nsIn (KN P) 46 "__init__" = some (some (.ref 37)) := by kernel_rfl!
theorem sat72 (P : Params) : findIn (KN P) (.ref 72) "__setattr__" = some (some (.builtin "object.__setattr__")) := by kernel_rfl!
theorem gat72 (P : Params) : findIn (KN P) (.ref 72) "__getattribute__" = some (some (.builtin "BaseException.__getattribute__")) := by kernel_rfl!
theorem gtt72 (P : Params) : findIn (KN P) (.ref 72) "__getattr__" = some none := by kernel_rfl!
theorem at72 (P : Params) : findIn (KN P) (.ref 72) "at" = some none := by kernel_rfl!
theorem what72 (P : Params) : findIn (KN P) (.ref 72) "what" = some none := by kernel_rfl!
theorem hd72 (P : Params) : hasDictIn (KN P) 72 = true := by kernel_rfl!
theorem passes72 (self : Value) : refuseLoop self "__setattr__" (.ref 72 :: .ref 47 :: bmB) = pure () := by
  rw [refuseLoop_ref, refuseLoop_ref]
  kernel_rfl
section
variable {prog : Program} {w : World} {A : Around} {R : Result → Shared → Prop} {s : Shared} {K : Frag} {x C dx L : Addr} {h₀ : Heap} {m : Str → Option Value} {news : List (Addr × Obj)} {ox : Obj} {od : Option Obj} {cd : ClassData} {name : Str} {tk : Tok} {v : Value}
theorem osaX_open (X : K.In s.heap) (I : InstAt s.heap x ox C od) (hc : clsIn K C = some cd) (ne : cd.mro.isEmpty = false) (ho : cd.mro.contains (.type "object") = true) (hr : refuseLoop (.ref x) "__setattr__" cd.mro = pure ()) (ha : findIn K (.ref C) name = some none)
    (h : ∀ b, wpAny (model prog w) A.in1 (storeInOwnDict (.ref x) (.ref C) (.str name tk) name v b) (fun fin s' => match fin with | .done f => R (.ok f) s' | .again c' => c'.quiet = true ∧ codeAny (model prog w) A c' R s') (fun e s' => R (.error e) s') s) :
    codeAny (model prog w) A (.call (.builtin "object.__setattr__") ⟨[.ref x, .str name tk, v], []⟩) R s := by
  have SF := PySem.F.store_object
  have sub : Looks (model prog w) s.heap (isInstance (.ref x) (.type "object")) true := I.type.andThen (looks_mroIn X (by unfold mroIn; rw [hc, Option.bind_some, if_neg (by rw [ne]; decide), ho]))
  refine codeAny_call_builtin SF.slot.plain SF.entry (@check_slot (model prog w) _ _ s "object.__setattr__" "object" "__setattr__" (.ref x) [.str name tk, v] [] _ SF.kind SF.split sub (SF.args (.ref x) (.str name tk) v) ?_)
  have hm : Looks (model prog w) s.heap (mroOf (.ref C)) cd.mro := (looks_clsIn X hc).andThen .now
  rw [osa_eq, refuse_eq, ]
  refine wpAny_bind (wpAny_bind (I.type.here (wpAny_bind (hm.here ?_))))
  rw [hr]
  exact wpAny_pure (wpAny_bind (I.type.here (wpAny_bind ((looks_findIn X ha).here (wpAny_bind (wpAny_pure (h _)))))))
theorem osaX_dict {es : List DictEntry} {n : Nat} {sl : Array (Option Value)} {vs : Array Value} {pre post : List (Addr × Obj)} (F : Fr h₀ L s.heap m) (N : News h₀ L s.heap (pre ++ (dx, dictOf es n) :: post)) (X : K.In s.heap) (hx : s.heap.get? x = some ⟨.ref C, some dx, .fields vs, sl⟩)
    (hc : clsIn K C = some cd) (hd : cd.hasDict = true) (ne : cd.mro.isEmpty = false) (ho : cd.mro.contains (.type "object") = true) (hr : refuseLoop (.ref x) "__setattr__" cd.mro = pure ()) (ha : findIn K (.ref C) name = some none)
    (hl : (getL name es).isSome = true) (h1 : ∀ p ∈ pre, p.1 ≠ dx) (h2 : ∀ p ∈ post, p.1 ≠ dx) (hz : (putL name (PyData.keyHash w.params name) (.str name s.toks) v es).length ≤ 1000)
    (h : ∀ h', Fr h₀ L h' m → News h₀ L h' (pre ++ (dx, dictOf (putL name (PyData.keyHash w.params name) (.str name s.toks) v es) (putN name es n)) :: post) → R (.ok (.ret .none)) { s with heap := h', toks := s.toks + 1 }) :
    codeAny (model prog w) A (.call (.builtin "object.__setattr__") ⟨[.ref x, .str name tk, v], []⟩) R s := by
  have D := (N (dx, dictOf es n) (by simp)).1
  refine osaX_open X (od := some (dictOf es n)) ⟨hx, rfl, rfl, D⟩ hc ne ho hr ha fun b => ?_
  obtain ⟨U1, U2⟩ := news_upd (f := Obj.putName name (PyData.keyHash w.params name) (.str name s.toks) v) F N h1 h2 (putName_dict _ _ _ _ _ _) rfl
  have D' := (U2 (dx, dictOf (putL name (PyData.keyHash w.params name) (.str name s.toks) v es) (putN name es n)) (by simp)).1
  refine wpAny_bind (wpAny_pure (wpAny_bind (wpAny_bind (wpAny_loadPart hx (wpAny_bind ((looks_clsIn X hc).here ?_))))))
  rw [hd]
  refine wpAny_pure (a := some dx) (wpAny_bind (wpAny_pure (wpAny_bind ?_)))
  unfold nsSet
  refine wpAny_bind (wpAny_bind (wpAny_askSetting (wpAny_pure (wpAny_bind (wpAny_mkText (wpAny_bind (wpAny_loadPart D ?_)))))))
  dsimp only [dictOf]
  have c : (!es.toArray.any (·.key.isStr name) && es.toArray.any (·.refKey)) = false := by
    rw [← Array.any_toList, ← Array.any_toList]
    unfold getL at hl
    split at hl
    · rename_i en he
      rw [List.any_eq_true.mpr ⟨en, List.mem_of_find?_eq_some he, List.find?_some he⟩]; rfl
    · split at hl
      · cases hl
      · rename_i z; rw [Bool.not_eq_true] at z; rw [z, Bool.and_false]
  rw [aRefKeyMayBeTheName_at, c]
  refine wpAny_updatePart D ?_
  refine wpAny_bind (wpAny_lookBehind D' (pastItsLine_dict (by rw [List.size_toArray, sizeLine_eq]; omega)) ?_)
  exact wpAny_pure (h _ U1 U2)
theorem osaX_new {sl : Array (Option Value)} {vs : Array Value} {rest : List (Addr × Obj)} (F : Fr h₀ L s.heap m) (N : News h₀ L s.heap ((x, ⟨.ref C, none, .fields vs, sl⟩) :: rest)) (hrest : ∀ p ∈ rest, p.1 ≠ x) (X : K.In s.heap)
    (hc : clsIn K C = some cd) (hd : cd.hasDict = true) (ne : cd.mro.isEmpty = false) (ho : cd.mro.contains (.type "object") = true) (hr : refuseLoop (.ref x) "__setattr__" cd.mro = pure ()) (ha : findIn K (.ref C) name = some none)
    (h : ∀ D h', Fr h₀ L h' m → News h₀ L h' ((D, dictOf [⟨PyData.keyHash w.params name, .str name s.toks, v⟩] 1) :: (x, ⟨.ref C, some D, .fields vs, sl⟩) :: rest) → (∀ p ∈ (x, (⟨.ref C, none, .fields vs, sl⟩ : Obj)) :: rest, p.1 < D) → R (.ok (.ret .none)) { s with heap := h', toks := s.toks + 1 }) :
    codeAny (model prog w) A (.call (.builtin "object.__setattr__") ⟨[.ref x, .str name tk, v], []⟩) R s := by
  have hx := (N _ (.head _)).1
  refine osaX_open X (od := none) ⟨hx, rfl, rfl, trivial⟩ hc ne ho hr ha fun b => ?_
  have hlt : ∀ p ∈ (x, (⟨.ref C, none, .fields vs, sl⟩ : Obj)) :: rest, p.1 < s.heap.objs.size := fun p hp => Heap.lt_size (N p hp).1
  have F₁ := F.push (o := { cls := .type "dict", data := .dict #[] })
  have N₁ : News h₀ L (s.heap.push { cls := .type "dict", data := .dict #[] }) ([(s.heap.objs.size, dictOf [] 0)] ++ (x, ⟨.ref C, none, .fields vs, sl⟩) :: rest) := news_pushed F N (fun b o e => Heap.get?_push_of_some _ e) (Heap.get?_push_size _ rfl) rfl
  have hxs : s.heap.objs.size ≠ x := Nat.ne_of_gt (hlt _ (.head _))
  obtain ⟨F₂, N₂⟩ := news_upd (f := fun o => { o with dict := some s.heap.objs.size }) F₁ N₁ (fun p hp => by rw [List.mem_singleton.mp hp]; exact hxs) hrest rfl rfl
  obtain ⟨F₃, N₃⟩ := news_upd (pre := []) (f := Obj.putName name (PyData.keyHash w.params name) (.str name s.toks) v) F₂ N₂ (fun p hp => nomatch hp) (fun p hp => by
    rcases List.mem_cons.mp hp with rfl | hp
    · exact hxs.symm
    · exact Nat.ne_of_lt (hlt p (.tail _ hp))) (putName_dict _ _ _ _ _ _) rfl
  refine wpAny_bind (wpAny_pure (wpAny_bind (wpAny_bind (wpAny_loadPart hx (wpAny_bind ((looks_clsIn X hc).here ?_))))))
  rw [hd]
  refine wpAny_bind (wpAny_alloc ?_)
  refine wpAny_bind (wpAny_update (Heap.get?_push_of_some _ hx) ?_)
  refine wpAny_pure (a := some s.heap.objs.size) (wpAny_bind (wpAny_pure (wpAny_bind ?_)))
  unfold nsSet
  refine wpAny_bind (wpAny_bind (wpAny_askSetting (wpAny_pure (wpAny_bind (wpAny_mkText (wpAny_bind (wpAny_loadPart (N₂ _ (.head _)).1 ?_)))))))
  dsimp only [dictOf]
  rw [aRefKeyMayBeTheName_at, if_neg (by simp)]
  refine wpAny_updatePart (N₂ _ (.head _)).1 ?_
  refine wpAny_bind (wpAny_lookBehind (N₃ _ (.head _)).1 (pastItsLine_dict (by rw [List.size_toArray, sizeLine_eq]; exact Nat.le_of_ble_eq_true rfl)) ?_)
  exact wpAny_pure (h _ _ F₃ N₃ hlt)
section
variable {prog : Program} {w : World} {A : Around} {E : Value → Shared → Prop} {Q : Unit → Shared → Prop} {s : Shared} {x dx L : Addr} {h₀ : Heap} {m : Str → Option Value} {news news' : List (Addr × Obj)} {name : Str} {v : Value} {sl : Array (Option Value)} {vs : Array Value}
theorem set72_new {rest : List (Addr × Obj)} (F : Fr h₀ L s.heap m) (X₀ : (KN w.params).In h₀) (N : News h₀ L s.heap ((x, ⟨.ref 72, none, .fields vs, sl⟩) :: rest)) (hrest : ∀ p ∈ rest, p.1 ≠ x) (ha : findIn (KN w.params) (.ref 72) name = some none)
    (h : ∀ D h', Fr h₀ L h' m → News h₀ L h' ((D, dictOf [⟨PyData.keyHash w.params name, .str name (s.toks + 1), v⟩] 1) :: (x, ⟨.ref 72, some D, .fields vs, sl⟩) :: rest) → (∀ p ∈ (x, (⟨.ref 72, none, .fields vs, sl⟩ : Obj)) :: rest, p.1 < D) → Q () { s with heap := h', toks := s.toks + 2 }) :
    wpAny (model prog w) A (setAttr (.ref x) name v) Q E s := by
  obtain ⟨cd, hc, hm, hd⟩ := clsIn72 w.params
  have X := X₀.keeps F.keep
  exact set_plain X (od := none) ⟨(N _ (.head _)).1, rfl, rfl, trivial⟩ (sat72 _) (osaX_new (s := { s with toks := s.toks + 1 }) F N hrest X hc hd (by rw [hm]; rfl) (by rw [hm]; decide) (by rw [hm]; exact passes72 _) ha h)
theorem set72_dict {es es' : List DictEntry} {n n' : Nat} (F : Fr h₀ L s.heap m) (X₀ : (KN w.params).In h₀) (N : News h₀ L s.heap news) (hx : (x, (⟨.ref 72, some dx, .fields vs, sl⟩ : Obj)) ∈ news) (U : Upd dx (dictOf es n) (dictOf es' n') news news') (ha : findIn (KN w.params) (.ref 72) name = some none) (hl : (getL name es).isSome = true)
    (e : (putL name (PyData.keyHash w.params name) (.str name (s.toks + 1)) v es, putN name es n) = (es', n')) (hz : es'.length ≤ 1000)
    (h : ∀ h', Fr h₀ L h' m → News h₀ L h' news' → Q () { s with heap := h', toks := s.toks + 2 }) :
    wpAny (model prog w) A (setAttr (.ref x) name v) Q E s := by
  obtain ⟨cd, hc, hm, hd⟩ := clsIn72 w.params
  have X := X₀.keeps F.keep
  obtain ⟨pre, post, rfl, rfl, a, b⟩ := U.split
  obtain ⟨e1, e2⟩ := Prod.mk.inj e
  subst e1 e2
  exact set_plain X (od := some (dictOf es n)) ⟨(N _ hx).1, rfl, rfl, (N (dx, dictOf es n) (by simp)).1⟩ (sat72 _) (osaX_dict (s := { s with toks := s.toks + 1 }) F N X (N _ hx).1 hc hd (by rw [hm]; rfl) (by rw [hm]; decide) (by rw [hm]; exact passes72 _) ha hl a b hz h)
end
end
end Mine
end
noncomputable section
open PySem PySem.W PyProof.Rows PySem.Calls PySem.Spec PySem.Builtin PySem.Builtin.ObjectAttr
set_option Elab.async false
set_option maxRecDepth 100000
namespace Mine
section
variable {prog : Program} {w : World} {A : Around} {E : Value → Shared → Prop} {s : Shared} {x dx L : Addr} {h₀ : Heap} {m : Str → Option Value} {name : Str} {v : Value} {sl : Array (Option Value)} {vs : Array Value} {es : List DictEntry} {n : Nat} {expr : Bool} {Q : Value → Shared → Prop}
theorem get72 (F : Fr h₀ L s.heap m) (X₀ : (KN w.params).In h₀) (hx : s.heap.get? x = some ⟨.ref 72, some dx, .fields vs, sl⟩) (hd : s.heap.get? dx = some (dictOf es n)) (ha : findIn (KN w.params) (.ref 72) name = some none) (hl : getL name es = some (some v)) (hh : handedIn v = true)
    (h : Q v { s with toks := s.toks + 1 }) : wpAny (model prog w) A (getAttr (.ref x) name expr) Q E s := by
  have X := X₀.keeps F.keep
  have I : InstAt s.heap x ⟨.ref 72, some dx, .fields vs, sl⟩ 72 (some (dictOf es n)) := ⟨hx, rfl, rfl, hd⟩
  obtain ⟨cd, hc, hm, hdd⟩ := clsIn72 w.params
  obtain ⟨hp, g, d, t, os⟩ := s
  have L0 := I.type (M := model prog w)
  have L1 := looks_findIn (M := model prog w) X (gat72 w.params)
  have L2 := looks_findIn (M := model prog w) X (gtt72 w.params)
  have L3 := looks_find (M := model prog w) X I (findObj_own (hd72 w.params) ha rfl hl)
  have sub : Looks (model prog w) hp (isInstance (.ref x) (.type "BaseException")) true := I.type.andThen (looks_mroIn X (by unfold mroIn; rw [hc, Option.bind_some, hm]; rfl))
  unfold getAttr getAttrBy
  refine wpAny_bind (wpAny_mkText (wpAny_holding (wpAny_bind (L0.at (wpAny_bind (L1.at ?_))))))
  show wpAny _ _ (getAttrByItsOwn (.ref x) (.str name t) (.ref 72) (.builtin "BaseException.__getattribute__") true expr) _ _ _
  unfold getAttrByItsOwn
  refine wpAny_bind (L2.at ?_)
  refine wpAny_bind (wpAny_attempt (wpAny_holding ?_))
  have e : callGetattribute (.ref x) (.str name t) (.builtin "BaseException.__getattribute__") expr = boundAndCalled (.builtin "BaseException.__getattribute__") (.ref x) (.str name t) := by cases expr <;> rfl
  rw [e]
  unfold boundAndCalled
  rw [PySem.F.attr_Exception.ga.bind]
  refine wpAny_bind (wpAny_pure ?_)
  refine wpAny_call (codeAny_call_builtin PySem.F.attr_Exception.ga.plain PySem.F.entry_bexc_ga (@check_slot (model prog w) _ _ ⟨hp, g, d, t + 1, os⟩ "BaseException.__getattribute__" "BaseException" "__getattribute__" (.ref x) [.str name t] [] _ (by decide +kernel) (by decide +kernel) sub (PySem.F.args_bexc_ga _ _) ?_))
  show wpAny _ _ (typeOf (.ref x) >>= fun tp => find (.ref x) tp name >>= _) _ _ _
  refine wpAny_bind (L0.at (wpAny_bind (L3.at (wpAny_pure ?_))))
  show wpAny _ _ (handedOut v) _ _ _
  rw [handedOut_of hh]
  exact wpAny_pure h
end
end Mine
end
noncomputable section
open PySem PySem.W PyProof.Rows PySem.Calls PySem.Spec
set_option Elab.async false
set_option maxRecDepth 100000
namespace Mine
theorem init72 (P : Params) : findIn (KN P) (.ref 72) "__init__" = some (some (.ref 37)) := by kernel_rfl!
theorem fn37 (P : Params) : typeIn (KN P) (.ref 37) = some (.type "function") := by kernel_rfl!
noncomputable abbrev m72 : List Value := .ref 72 :: .ref 47 :: bmB
section
variable {prog : Program} {w : World} {A : Around} {E : Value → Shared → Prop} {h : Heap} {g : Array GenState} {d : Drawn} {t : Nat} {os : OsState}
variable {nm q : Str} {bs : List Value} {sn : List Str} {sub : List Value} {ab : Bool} {col : Option Bool} {dd : Option Addr} {k0 k1 k2 k3 k5 : Option Value}
theorem newOk72 {rest : List Value} {M : Model} {Q : Unit → Shared → Prop} (hC : h.get? 72 = some (excClassObj nm q 72 71 bs (.ref 47 :: bmB) true sn sub ab col dd k0 k1 k2 k3 k5 "Exception.__new__")) (hq : Q () ⟨h, g, d, t, os⟩) : wpAny M A (checkBuiltinCall "Exception.__new__" ⟨.ref 72 :: rest, []⟩) Q E ⟨h, g, d, t, os⟩ := by
  have FE := PySem.F.excBase_Exception
  have hcont : m72.contains (.type "Exception") = true := by decide
  have hstar := FE.noStar
  simp only [checkBuiltinCall, FE.newKind, FE.newSplit, FE.newRow]
  repeat (first | refine wpAny_loadPart_at hC ?_ | (refine wpAny_isSubtype_exc hC ?_; rw [hcont]) | refine wpAny_staticBase_exc hC ?_ | refine wpAny_madeBy_exc hC ?_ | simp only [bne_self_eq_false, Bool.false_eq_true, if_false] | wp_step)
  exact hq
theorem new72 {R : Result → Shared → Prop} {rest : List Value} (hC : h.get? 72 = some (excClassObj nm q 72 71 bs (.ref 47 :: bmB) true sn sub ab col dd k0 k1 k2 k3 k5 "Exception.__new__"))
    (hq : R (.ok (.ret (.ref (h.objs.size + 1)))) ⟨(h.push { cls := .type "tuple", data := .seq rest.toArray }).push { cls := .ref 72, data := .fields #[.ref h.objs.size, .none, .none, .none, .bool false, .none] }, g, d, t, os⟩) (hrest : rest.length ≤ sizeLine) :
    codeAny (model prog w) A (.builtin "Exception.__new__" ⟨.ref 72 :: rest, []⟩) R ⟨h, g, d, t, os⟩ := by
  have FE := PySem.F.excBase_Exception
  have hends := FE.ends
  have hcB : m72.contains (.type "Exception") = true := by decide
  have hcA : m72.contains (.type "AttributeError") = false := by decide
  have hcN : m72.contains (.type "NameError") = false := by decide
  refine codeAny_builtinAt FE.entry ?_
  unfold Builtin.«BaseException.__new__»
  refine PySem.wpAt_bind ?_
  show PySem.wpAt _ _ _ (stack >>= _) _ _ _
  refine PySem.wpAt_bind (PySem.wpAt_stack fun p below => PySem.wpAt_of_wpAny ?_)
  wp_walk
  refine PySem.wpAt_of_wpAny ?_
  rw [FE.owner]
  repeat (first | with_reducible refine wpAny_madeHere_exc FE.canon hC ?_ | with_reducible refine wpAny_loadPart_at hC ?_ | (with_reducible refine wpAny_isSubtype_exc hC ?_; first | rw [hcB] | rw [hcA] | rw [hcN]) | wp_step)
  show R _ _
  rw [Heap.size_push]
  exact hq
theorem typeCall72 {rest : List Value} {Q : Fin → Shared → Prop} (X : (KN w.params).In h)
    (hq : ∀ h' e, Heap.MadeExcOf h h' e (.ref 72) rest → wpAny (model prog w) A (call (.ref 37) (.ref e :: rest)) (fun r s' => r = .none ∧ Q (.done (.ret (.ref e))) s') E ⟨h', g, d, t, os⟩) (hrest : rest.length ≤ sizeLine) :
    wpAny (model prog w) A (Builtin.«type.__call__» ⟨.ref 72 :: rest, []⟩) Q E ⟨h, g, d, t, os⟩ := by
  obtain ⟨nm, q, bs, sn, sub, ab, col, dd, k0, k1, k2, k3, k5, e72⟩ := cls72 w.params
  have hC := X _ _ e72
  have FE := PySem.F.excBase_Exception
  repeat (first | with_reducible refine wpAny_loadPart_at hC ?_ | with_reducible refine wpAny_madeBy_exc hC ?_ | wp_step)
  refine codeAny_call_builtin_code (Code.quiet_builtin _ FE.quiet) (newOk72 hC ?_)
  refine new72 hC ?_ hrest
  show wpAny _ _ _ _ _ _
  have k : ∀ b o, h.get? b = some o → ((h.push { cls := .type "tuple", data := .seq rest.toArray }).push { cls := .ref 72, data := .fields #[.ref h.objs.size, .none, .none, .none, .bool false, .none] }).get? b = some o := fun b o e => Heap.get?_push_of_some _ (Heap.get?_push_of_some _ e)
  have X₁ := X.keeps k
  have hC₁ := k _ _ hC
  have hget : ((h.push { cls := .type "tuple", data := .seq rest.toArray }).push { cls := .ref 72, data := .fields #[.ref h.objs.size, .none, .none, .none, .bool false, .none] }).get? (h.objs.size + 1) = some
      { cls := .ref 72, data := .fields #[.ref h.objs.size, .none, .none, .none, .bool false, .none] } := by heap_get
  have hcC : m72.contains (.ref 72) = true := by decide
  unfold isInstance
  repeat (first | with_reducible refine wpAny_loadPart_at hget ?_ | (with_reducible refine wpAny_isSubtype_exc hC₁ ?_; rw [hcC]) | wp_step)
  show wpAny _ _ (typeLookup (.ref 72) _) _ _ _
  refine (looks_findIn X₁ (init72 _)).at ?_
  refine wpAny_holding (wpAny_bind ((bind_fn X₁ _ (fn37 _)).at ?_))
  refine wpAny_bind (wpAny_mono (hq _ (h.objs.size + 1) ⟨k, Heap.get?_none_of_le (Nat.le_succ _), h.objs.size, hget, Heap.get?_none_of_le (Nat.le_refl _), Heap.get?_push_of_some _ (Heap.get?_push_at rfl rfl)⟩) (fun r s' hr => ?_) fun _ _ x => x)
  obtain ⟨rfl, hQ⟩ := hr
  wp_walk
  exact hQ
theorem call72 {rest : List Value} {Q : Value → Shared → Prop} (X : (KN w.params).In h)
    (hq : ∀ h' e, Heap.MadeExcOf h h' e (.ref 72) rest → wpAny (model prog w) (A.under (.builtin "type.__call__" ⟨.ref 72 :: rest, []⟩)) (call (.ref 37) (.ref e :: rest)) (fun r s' => r = .none ∧ Q (.ref e) s') E ⟨h', g, d, t, os⟩) (hrest : rest.length ≤ sizeLine) :
    wpAny (model prog w) A (call (.ref 72) rest) Q E ⟨h, g, d, t, os⟩ := by
  obtain ⟨nm, q, bs, sn, sub, ab, col, dd, k0, k1, k2, k3, k5, e72⟩ := cls72 w.params
  have hC := X _ _ e72
  have f1 := tc_lookup
  have f2 := tc_bind (.ref 72)
  have hT : (⟨h, g, d, t, os⟩ : Shared).TypeIs (.ref 72) "type" := ⟨_, hC, rfl⟩
  refine wpAny_call (codeAny_of_tree ?_)
  show wpAny _ _ (callAny (.ref 72) _) _ _ _
  repeat (any_goals (first | assumption | with_reducible refine wpAny_loadPart_at hC ?_ | wp_step))
  refine ⟨rfl, ?_⟩
  exact codeAny_call_builtin_at (Code.quiet_builtin _ (by decide +kernel)) entry_typeCall (wpAny_check_type_call_sub hC (typeCall72 X (fun h' e hm => hq h' e hm) hrest))
end
end Mine
end
noncomputable section
open PySem PySem.W PyProof.Rows PySem.Calls PySem.Spec
set_option Elab.async false
set_option maxRecDepth 100000
namespace Mine
noncomputable abbrev excF (a0 : Value) : Data := .fields #[a0, .none, .none, .none, .bool false, .none]
noncomputable abbrev excN (t : Addr) : Obj := ⟨.ref 72, none, excF (.ref t), #[]⟩
noncomputable abbrev excO (dd t : Addr) : Obj := ⟨.ref 72, some dd, excF (.ref t), #[]⟩
theorem initCls (P : Params) : findCls (KN P) (.type "Exception") (.type "type") "__init__" = some (.val (.builtin "Exception.__init__")) := by kernel_rfl!
section
variable {prog : Program} {w : World} {A : Around} {E : Value → Shared → Prop} {s : Shared} {h₀ : Heap} {L : Addr} {m : Str → Option Value} {e t : Addr} {v : Value} {rest : List (Addr × Obj)} {Q : Value → Shared → Prop}
theorem check72 {a b : Value} {M : Model} {P : Params} {Qu : Unit → Shared → Prop} (X : (KN P).In s.heap) (he : s.heap.get? e = some (excN t)) (hq : Qu () s) : wpAny M A (checkBuiltinCall "Exception.__init__" ⟨[.ref e, b], []⟩) Qu E s := by
  obtain ⟨nm, q, bs, sn, sub, ab, col, dd, k0, k1, k2, k3, k5, e72⟩ := cls72 P
  have hC := X _ _ e72
  have FE := PySem.F.excBase_Exception
  have hcB : m72.contains (.type "Exception") = true := by decide
  have hshort := FE.noStar
  obtain ⟨h, g, d, tk, os⟩ := s
  simp only [checkBuiltinCall, FE.initKind, FE.initSplit, FE.initRow]
  repeat (first | with_reducible refine wpAny_loadPart_at he ?_ | with_reducible refine wpAny_loadPart_at hC ?_ | (with_reducible refine wpAny_isSubtype_exc hC ?_; rw [hcB]) | wp_step)
  exact hq
theorem init72b (F : Fr h₀ L s.heap m) (X₀ : (KN w.params).In h₀) (N : News h₀ L s.heap ((e, excN t) :: rest)) (hrest : ∀ p ∈ rest, p.1 ≠ e)
    (h : ∀ D h', Fr h₀ L h' m → News h₀ L h' ((e, excN D) :: rest) → Q .none { s with heap := h' }) : wpAny (model prog w) A (call (.builtin "Exception.__init__") [.ref e, v]) Q E s := by
  have FE := PySem.F.excBase_Exception
  have he := (N _ (.head _)).1
  refine wpAny_call (codeAny_call_builtin FE.init.plain FE.initEntry (check72 (a := v) (X₀.keeps F.keep) he ?_))
  unfold Builtin.«BaseException.__init__»
  dsimp only
  rw [if_neg (by simp)]
  unfold newTuple Builtin.BaseException.bexcPut
  have he₁ := Heap.get?_push_of_some (h := s.heap) { cls := .type "tuple", data := .seq [v].toArray } he
  refine wpAny_bind (wpAny_newObj_type (wpAny_bind (wpAny_bind (wpAny_field he₁ rfl rfl (wpAny_bind (wpAny_setField he₁ rfl (by simp) ?_))))) (by show ([v].toArray).size ≤ sizeLine; rw [List.size_toArray]; exact Nat.le_of_ble_eq_true rfl))
  refine wpAny_letGo (wpAny_pure ?_)
  have N₁ := news_pushed F N (fun b o e => Heap.get?_push_of_some _ e) (Heap.get?_push_size (o := { cls := .type "tuple", data := .seq [v].toArray }) s.heap rfl) rfl
  obtain ⟨F₂, N₂⟩ := news_upd (pre := [(s.heap.objs.size, { cls := .type "tuple", data := .seq [v].toArray })]) (f := Obj.mapFields (·.setIfInBounds 0 (.ref s.heap.objs.size))) (F.push _) N₁ (fun p hp => by rw [List.mem_singleton.mp hp]; exact Nat.ne_of_gt (Heap.lt_size he)) hrest rfl rfl
  exact h _ _ F₂ (fun q hq => N₂ q (.tail _ hq))
end
end Mine
end
noncomputable section
open PySem PySem.W PyProof.Rows PySem.Calls
set_option Elab.async false
set_option maxRecDepth 100000
set_option maxHeartbeats 4000000
namespace Mine
theorem kw_R40_1 : True := by
  (k_with "MINE enterExc" => ((fail_if_success k_extra "past R40"); ((
  intro dp un gd cn cs a ccd cl outer A₀ base h₀ L m s Q E B F
  k_fill
  intro X N T hk hd hu hret
  obtain ⟨hp, gg, dr, tk, os⟩ := s
  refine call72 (X.keeps F.keep) (fun h1 e1 hm => ?_) (Nat.le_of_ble_eq_true rfl)
  obtain ⟨hmk, hmn, t1, he1, htn1, ht1⟩ := hm
  have N1 := news_made F N hmk he1 hmn
  have hne1 := news_apart N hmn
  replace F := F.keeps hmk
  clear N
  refine wpAny_call ?_
  k_dflt (refine' code_def ?k1 ?k2 ?k3 ?k4 ?k5 ?kA ?kF ?kK ?k6 ?k7 ?k8 ?k9 ?kB ?_ ?c2 ?c3 ?c4 ?c5; (case kA => exact rfl); (case kF => exact rfl); (case kK => assumption); (case k1 => k_asm); (case k2 => k_asm); (case k3 => k_asm); (case k4 => k_asm); (case k5 => k_asm); (case k6 => k_is); (case k7 => k_is); (case k8 => ktr_room); (case k9 => first | exact BindsTo.of_eq rfl | exact binds_K (by k_in) rfl (by k_is) rfl rfl rfl); (case c5 => decide); (case kB => exact locs rfl); (case c2 => exact rfl); (case c3 => exact rfl); (case c4 => exact rfl); k_whole; intro g' L' h' FG' F' N' B' X' T'; (try w_binds F'); (try dsimp only); (try k_fold))))))
  trivial
theorem sx_Exception : (⟨⟨[69, 120, 99, 101, 112, 116, 105, 111, 110]⟩⟩ : Str) = Str.ofString "Exception" := by kernel_rfl!
theorem sx_init : (⟨⟨[95, 95, 105, 110, 105, 116, 95, 95]⟩⟩ : Str) = Str.ofString "__init__" := by kernel_rfl!
theorem sx_what : (⟨⟨[119, 104, 97, 116]⟩⟩ : Str) = Str.ofString "what" := by kernel_rfl!
theorem sx_at : (⟨⟨[97, 116]⟩⟩ : Str) = Str.ofString "at" := by kernel_rfl!
theorem meta_Exc : typeOf (.type "Exception") = pure (.type "type") := by kernel_rfl
theorem kw_R40_2 : True := by
  (k_with "getMethod type:Exception" => ((fail_if_success k_extra "past R40"); ((k_here; refine' method_type ?F9 ?X9 ?m9 (by decide +kernel) ?e9 ?h9 ?_; (case F9 => k_asm); (case X9 => k_asm); (case m9 => exact meta_Exc); (case e9 => exact initCls _); (case h9 => rfl)))))
  (k_with "call builtin:Exception.__init__" => ((fail_if_success k_extra "past R40"); ((k_here; k_dflt (refine' init72b ?F9 ?X9 ?N9 ?r9 ?_; (case F9 => k_asm); (case X9 => k_asm); (case N9 => k_asm); (case r9 => exact hne1)); intro D9 h9 F9 N9; k_sweep))))
  (k_with "setAttr ref" => ((fail_if_success k_extra "past R40"); ((k_here; first
  | (k_dflt (refine' set72_new ?F9 ?X9 ?N9 ?r9 (what72 _) ?_; (case F9 => k_asm); (case X9 => k_asm); (case N9 => with_reducible assumption); (case r9 => exact hne1)); intro D9 h9 F9 N9 l9; replace l9 := apart_head l9; k_sweep)
  | (k_dflt (refine' set72_dict ?F9 ?X9 ?N9 ?x9 ?U9 (at72 _) ?g9 ?e9 ?z9 ?_; (case F9 => k_asm); (case X9 => k_asm); (case N9 => with_reducible assumption); (case x9 => exact .tail _ (.head _)); (case U9 => exact Upd.head (l9 _)); (case g9 => rfl); (case e9 => rfl); (case z9 => exact Nat.le_of_ble_eq_true rfl)); intro h9 F9 N9; k_sweep)))))
  trivial
theorem apart_head {l : News'} {e D : Addr} {o : Obj} (h : ∀ p ∈ (e, o) :: l, p.1 < D) : ∀ o' : Obj, ∀ p ∈ (e, o') :: l, p.1 ≠ D := fun o' p hp => by
  rcases List.mem_cons.mp hp with rfl | hp
  · exact Nat.ne_of_lt (h (e, o) (.head _))
  · exact Nat.ne_of_lt (h p (.tail _ hp))
theorem news_made {h₀ h h' : Heap} {L e t : Addr} {m : Str → Option Value} {news : News'} (F : Fr h₀ L h m) (N : News h₀ L h news) (k : ∀ b o, h.get? b = some o → h'.get? b = some o) (he : h'.get? e = some (excN t)) (hn : h.get? e = none) : News h₀ L h' ((e, excN t) :: news) := fun q hq => by
  rcases List.mem_cons.mp hq with rfl | hq
  · refine ⟨he, fun z => ?_, ?_⟩
    · obtain ⟨o, _, _, hL, _⟩ := F.ns
      rw [← z, hn] at hL; cases hL
    · cases q : h₀.get? e with
      | none => rfl
      | some o => have := F.keep _ _ q; rw [hn] at this; cases this
  · exact ⟨k _ _ (N q hq).1, (N q hq).2⟩
theorem news_apart {h₀ h : Heap} {L e : Addr} {news : News'} (N : News h₀ L h news) (hn : h.get? e = none) : ∀ x ∈ news, x.1 ≠ e := fun x hx z => by
  have := (N x hx).1
  rw [z, hn] at this; cases this
section
variable {G : Gl} {news : News'}
theorem exc_new (what : Str) (tt : Tok) (tp : Addr) :
    Con G 72 [.str what tt, .ref tp] news 6 60 (fun news' v => ∃ e dd t h1 h2 k1 k2, v = .ref e ∧ news' = (dd, dictOf [⟨h1, .str "what" k1, .str what tt⟩, ⟨h2, .str "at" k2, .ref tp⟩] 2) :: (e, excO dd t) :: news ∧ (∀ x ∈ news, x.1 ≠ e) ∧ dd ≠ e ∧ (∀ x ∈ news, x.1 ≠ dd)) := by
  walk_at "MINE enterExc"
  rw [sx_Exception, sx_init, sx_what, sx_at]
  k_steps
  all_goals trace_state
  all_goals (exact hret _ _ _ _ (by k_asm) (by k_asm) ⟨_, _, _, _, _, _, _, rfl, rfl, hne1, Ne.symm (l9 default (e1, default) (.head _)), fun x hx => l9 default x (.tail _ hx)⟩)
end
theorem kw_R40_end : True := by
  (k_with "past R40" => skip)
  trivial
end Mine
end
noncomputable section
open PySem PySem.W PyProof.Rows PySem.Calls
set_option Elab.async false
set_option maxRecDepth 100000
set_option maxHeartbeats 4000000
namespace Mine
/-- a reader whose tokens tell where they stand -/
structure RF (news : News') (r : Addr) (q : RP) (ts : Toks) (p : Nat) (pt : Tok) (ys : List Value) : Prop where
  rs : RS news r q ts p pt
  tl : (q.tl, LCg.lst ys) ∈ news
  ats : AtsOk news ts ys
  len : ys.length = ts.length
/-- the exception, freshly made, on the ledger -/
noncomputable def FaultAt (news : News') (p : Nat) (news' : News') (v : Value) : Prop :=
  ∃ e dd t h1 h2 k1 k2 x tu n u w, v = .ref e ∧ news' = (dd, dictOf [⟨h1, .str "what" k1, x⟩, ⟨h2, .str "at" k2, .ref tu⟩] 2) :: (e, excO dd t) :: news ∧ (∀ x ∈ news, x.1 ≠ e) ∧ dd ≠ e ∧ (∀ x ∈ news, x.1 ≠ dd) ∧ (tu, tupK #[.int ((p : Int) + 1) u, .int 12 w] n) ∈ news
section
variable {G : Gl} {news : News'} {r : Addr} {q : RP} {ts : Toks} {p : Nat} {pt : Tok} {ys : List Value}
theorem kw_R41_1 : True := by
  (k_with "MINE call" => ((fail_if_success k_extra "past R41"); (((with_reducible show wpAny _ _ (call (Value.ref 72) _ _) _ _ _); refine' con_use (exc_new _ _ _) ?B9 ?F9 ?X9 ?N9 ?T9 ?K9 ?D9 ?U9 ?_; walk_at "MINE use"; intro r9 news9 h9 tk9 F9 N9 p9; obtain ⟨e9, dd9, t9, g1, g2, k1, k2, x9, y9, z1, z2, z3⟩ := p9; subst x9; subst y9; k_sweep))))
  trivial
theorem truthy_ne {prog : Program} {A : Around} {E : Value → Shared → Prop} {s : Shared} {l : Addr} {items : Array Value} {Q : Bool → Shared → Prop} (hl : s.heap.IsList l items) (h0 : 0 < items.size) (hf : items.size ≤ 4096) (h : Q true { s with toks := s.toks + 1 + 1 }) : wpAny (model prog w) A (truthy (.ref l)) Q E s := by
  refine wpAny_truthy_list hl (by omega) ?_
  have : items.isEmpty = false := by
    rw [Array.isEmpty_eq_false_iff]; intro e; rw [e] at h0; simp at h0
  rw [this]; exact h
theorem kw_R41_2 : True := by
  (k_with "truthy ref" => ((fail_if_success k_extra "past R41"); ((k_here; k_dflt (refine' truthy_ne (isList_news ?k1 ?k2) ?k3 ?k4 ?_; (case k1 => k_asm); (case k2 => k_mem); (case k3 => (simp only [List.size_toArray]; omega)); (case k4 => (simp only [List.size_toArray]; omega)); k_whole)))))
  (k_with "call builtin:len" => ((fail_if_success k_extra "past R41"); ((k_here; (with_reducible show wpAny _ _ (call (Value.builtin "len") [Value.ref _]) _ _ _); k_dflt (refine' len_is hlen (isList_news ?k1 ?k2) ?k3 ?_; (case k1 => k_asm); (case k2 => k_mem); (case k3 => (simp only [List.size_toArray]; omega)); k_whole)))))
  trivial
theorem len_is {prog : Program} {A : Around} {E : Value → Shared → Prop} {s : Shared} {l : Addr} {ys : List Value} {n : Nat} {Q : Value → Shared → Prop} (e : ys.length = n) (hl : s.heap.IsList l ys.toArray) (hf : (ys.toArray.size : Int) < 2 ^ 63) (h : Q (.int n (s.toks + 1)) { s with toks := s.toks + 1 + 1 }) : wpAny (model prog w) A (call (.builtin "len") [.ref l]) Q E s := by
  subst e
  exact len_at hl hf (by rw [List.size_toArray]; exact h)
theorem kw_R41_3 : True := by
  (k_with "subscriptTail" => ((fail_if_success k_extra "past R41"); ((k_here; (with_reducible show wpAny _ _ (subscriptTail _ _ (Value.ref _) (Value.int _ _)) _ _ _); k_dflt (refine' item_at (isList_news ?k1 ?k2) ?k3 ?k4 ?k5 ?_; (case k1 => k_asm); (case k2 => k_mem); (case k3 => omega); (case k4 => omega); (case k5 => walk_at "MINE item"); k_whole)))))
  (k_with "last subscriptTail" => ((fail_if_success k_extra "past R41"); (walk_at "subscriptTail")))
  trivial
theorem min_le {prog : Program} {A : Around} {E : Value → Shared → Prop} {s : Shared} {h₀ : Heap} {L : Addr} {m : Str → Option Value} {a b : Int} {t u : Tok} {Q : Value → Shared → Prop} (hh : A.handled = none) (F : Fr h₀ L s.heap m) (N : News h₀ L s.heap news) (hle : a ≤ b)
    (h : ∀ h' tk, Fr h₀ L h' m → News h₀ L h' news → Q (.int a t) { s with heap := h', toks := tk }) : wpAny (model prog w) A (call (.builtin "min") [.int a t, .int b u]) Q E s :=
  PyProof.Rows.min_two_N hh F N fun h' tk F' N' => by
    have := h h' tk F' N'
    rw [if_neg (by omega), if_neg (by omega)]; exact this
theorem kw_R41_4 : True := by
  (k_with "call builtin:min" => ((fail_if_success k_extra "past R41"); ((k_here; (with_reducible show wpAny _ _ (call (Value.builtin "min") [Value.int _ _, Value.int _ _]) _ _ _); k_dflt (refine' min_le rfl ?F9 ?N9 ?l9 ?_; (case F9 => k_asm); (case N9 => k_asm); (case l9 => omega)); intro h9 tk9 F9 N9; k_sweep))))
  (k_with "MINE item" => ((fail_if_success k_extra "past R41"); (exact hit)))
  trivial
theorem fault_c (R : RF news r q ts p pt ys) (hlt : p < ts.length) (what : Str) (tt : Tok) :
    Con G 314 [.ref r, .str what tt] news 12 120 (fun news' v => FaultAt news p news' v) := by
  obtain ⟨R, htl, hats, hlen⟩ := R
  obtain ⟨hr, hd9, _, _, _, _, _⟩ := id R
  obtain ⟨⟨kd, wo⟩, e⟩ : ∃ x, ts[p]? = some x := ⟨_, List.getElem?_eq_getElem hlt⟩
  obtain ⟨t0, tp0, a0, n0, u0, v0, hy, hta, hav, htu⟩ := hats p kd wo e
  obtain ⟨td0, c1, c2, c3, c4, d1, d2, d3, d4, kt0, wt0, av0⟩ := tp0
  change av0 = _ at hav
  subst hav
  have h48 : ts.length < 4096 := R.small
  have hit : ys.toArray[((p : Int)).toNat]? = some (.ref t0) := by rw [Int.toNat_natCast, List.getElem?_toArray]; exact hy
  have hti := hta.inst
  have htd := hta.dict
  walk_at "MINE enter"
  rw [sw_len, sw_min]
  k_steps
  all_goals (walk_at "MINE end"; exact ⟨_, _, _, _, _, _, _, _, _, _, _, _, rfl, rfl, z1, z2, z3, htu⟩)
end
theorem kw_R41_end : True := by
  (k_with "past R41" => skip)
  trivial
end Mine
end
noncomputable section
open PySem PySem.W PyProof.Rows PySem.Calls PySem.Spec
set_option Elab.async false
set_option maxRecDepth 100000
namespace Mine
noncomputable def RaisedD (base G : Heap) (l : List Env) (e : Addr) (a0 : Value) (dd : Addr) (news : List (Addr × Obj)) (h : Heap) : Prop :=
  ∃ B, base.StaysIn B ∧ (∀ b o, G.get? b = some o → b ∉ l.filterMap (·.frame) → B.get? b = some o) ∧ (∀ q ∈ news, B.get? q.1 = some q.2 ∧ G.get? q.1 = none ∧ base.get? q.1 = none) ∧ G.get? e = none ∧ Heap.FlyingW B l e (.ref 72) a0 h ∧ ∃ oe, h.get? e = some oe ∧ oe.dict = some dd
section
variable {M : Model} {A : Around} {E : Value → Shared → Prop} {s' : Shared} {base g g₂ h : Heap} {outer : List Env} {L a e t dd : Addr} {m : Str → Option Value} {name : Str} {scope : Scope} {cd : Value} {Q : Unit → Shared → Prop} {news rest : List (Addr × Obj)}
theorem frames_kept {base h h' : Heap} (k : ∀ b o, h.get? b = some o → h'.get? b = some o) {l : List Env} (x : h.FunFrames base l) : h'.FunFrames base l := x.of_keeps fun b o e _ => ⟨o, k b o e, rfl⟩
theorem leave_firstD (K : Below A base outer g) (F : Fr g L s'.heap m) (N : News g L s'.heap news) (he : (e, excO dd t) ∈ news) (hr : ∀ q ∈ rest, q ∈ news ∧ q.1 ≠ e)
    (hQ : ∀ h', RaisedD base g outer e (.ref t) dd rest h' → g.UpToSlots h' → Q () { s' with heap := h' }) (hk : scope.kind = .function) :
    wpAny M (A.deeper (envOf name scope L a cd)) (leaving (envOf name scope L a cd) (.ref e)) Q E s' := by
  have K' := K.push (name := name) (a := a) (cd := cd) F hk
  have hoe := (N _ he).1
  have hin : ∀ env ∈ (envOf name scope L a cd :: outer), ∀ b, env.frame = some b → b ∈ e :: (envOf name scope L a cd :: outer).filterMap (·.frame) := fun env he b hb => .tail _ (List.mem_filterMap.mpr ⟨env, he, hb⟩)
  have notFrame : ∀ q ∈ news, q.1 ∉ (envOf name scope L a cd :: outer).filterMap (·.frame) := fun q hq hm => by
    obtain ⟨env, he, hf⟩ := List.mem_filterMap.mp hm
    rcases List.mem_cons.mp he with rfl | he
    · exact (N q hq).2.1 (Option.some.inj hf).symm
    · obtain ⟨o, ho, _⟩ := (K.frames.mem (List.mem_filterMap.mpr ⟨env, he, hf⟩)).2
      rw [(N q hq).2.2] at ho; cases ho
  have st : base.StaysIn (hideAll s'.heap (e :: (envOf name scope L a cd :: outer).filterMap (·.frame))) := fun b o q => hideAll_get _ (K'.stays b o q) fun hm => by
    rcases List.mem_cons.mp hm with rfl | hm
    · have := fresh_of_stays K.stays (N _ he).2.2
      rw [q] at this; cases this
    · rw [(K'.frames.mem hm).1] at q; cases q
  have hl : ∀ q ∈ rest, (hideAll s'.heap (e :: (envOf name scope L a cd :: outer).filterMap (·.frame))).get? q.1 = some q.2 ∧ g.get? q.1 = none ∧ base.get? q.1 = none := fun q hq => by
    obtain ⟨hq, hne⟩ := hr q hq
    refine ⟨hideAll_get _ (N q hq).1 fun hm => ?_, (N q hq).2.2, fresh_of_stays K.stays (N q hq).2.2⟩
    rcases List.mem_cons.mp hm with z | hm
    · exact hne z
    · exact notFrame q hq hm
  have sg : ∀ b o, g.get? b = some o → b ∉ outer.filterMap (·.frame) → (hideAll s'.heap (e :: (envOf name scope L a cd :: outer).filterMap (·.frame))).get? b = some o := fun b o q nm => hideAll_get _ (F.keep b o q) fun hm => by
    rcases List.mem_cons.mp hm with rfl | hm
    · rw [(N _ he).2.2] at q; cases q
    · rcases kts_mem hm with z | z
      · rw [z, kts_self F] at q; cases q
      · exact nm z
  have hnone : (hideAll s'.heap (e :: (envOf name scope L a cd :: outer).filterMap (·.frame))).get? e = none := hideAll_none _ (.head _)
  refine wpAny_mono (calm_any (calm_leaving _ _) (wpAny_leaving_firstW (a0 := .ref t) (Q := fun _ s₂ => ∃ h', s₂ = { s' with heap := h' } ∧ Heap.LeftW (hideAll s'.heap (e :: (envOf name scope L a cd :: outer).filterMap (·.frame))) (envOf name scope L a cd :: outer) e (.ref 72) (.ref t) s'.heap h') (E := E) K'.stack (funFrames_hide K'.frames hin) rfl hoe (fun b o q => of_hideAll _ q) hnone rfl rfl rfl fun h' hL => ⟨h', rfl, hL⟩)) (fun _ s₂ x => ?_) fun _ _ x => x.1
  obtain ⟨⟨h', rfl, k1, ⟨_, _, k2⟩, k3, k4⟩, kd⟩ := x
  obtain ⟨oe, h1, h2⟩ := kd _ _ hoe
  exact hQ h' ⟨_, st, sg, hl, (N _ he).2.2, ⟨k1, hnone, k2, k3⟩, oe, h1, h2⟩ ((Heap.UpToSlots.of_keeps F.keep).trans k4)
theorem leave_onD {a0 : Value} (K : Below A base outer g) (F : Fr g L g₂ m) (R : RaisedD base g₂ (envOf name scope L a cd :: outer) e a0 dd news s'.heap) (hsm : g₂.UpToSlots s'.heap)
    (hQ : ∀ h', RaisedD base g outer e a0 dd news h' → g.UpToSlots h' → Q () { s' with heap := h' }) :
    wpAny M (A.deeper (envOf name scope L a cd)) (leaving (envOf name scope L a cd) (.ref e)) Q E s' := by
  obtain ⟨B, hB, hBG, hl, hen, hfl, oe, h1, h2⟩ := R
  refine wpAny_mono (calm_any (calm_leaving _ _) (wpAny_leaves_onW (Q := fun _ s₂ => ∃ h', s₂ = { s' with heap := h' } ∧ Heap.FlyingW B outer e (.ref 72) a0 h' ∧ s'.heap.UpToSlots h') (E := E) (Around.frames_deeper K.stack) rfl hfl fun h' x1 x2 => ⟨h', rfl, x1, x2⟩)) (fun _ s₂ x => ?_) fun _ _ x => x.1
  obtain ⟨⟨h', rfl, x1, x2⟩, kd⟩ := x
  obtain ⟨oe', g1, g2⟩ := kd _ _ h1
  exact hQ h' ⟨B, hB, fun b o q nm => hBG b o (F.keep b o q) (fun hm => by
      rcases kts_mem hm with z | z
      · rw [z, kts_self F] at q; cases q
      · exact nm z), fun q hq => ⟨(hl q hq).1, kts_none F.keep (hl q hq).2.1, (hl q hq).2.2⟩, kts_none F.keep hen, x1, oe', g1, g2.trans h2⟩ ((Heap.UpToSlots.of_keeps F.keep).trans (hsm.trans x2))
end
end Mine
end
noncomputable section
open PySem PySem.W PyProof.Rows PySem.Calls PySem.Spec
set_option Elab.async false
set_option maxRecDepth 100000
namespace Mine
section
variable {prog : Program} {w : World} {A : Around} {E : Value → Shared → Prop} {s : Shared} {env : Env} {Q : Flow → Shared → Prop}
theorem raise72 {x : Sem Value} (hh : A.handled = none)
    (h : wpAny (model prog w) A x (fun v s₁ => ∃ e dd t, v = .ref e ∧ (KN w.params).In s₁.heap ∧ s₁.heap.get? e = some (excO dd t) ∧ E (.ref e) s₁) E s) : wpAny (model prog w) A (raiseStmt env (some x) none) Q E s := by
  unfold raiseStmt
  refine wpAny_bind (wpAny_mono h (fun v s₁ h₁ => ?_) fun _ _ x => x)
  obtain ⟨e, dd, t, rfl, X, he, hE⟩ := h₁
  obtain ⟨nm, q, bs, sn, sub, ab, col, d0, k0, k1, k2, k3, k5, e72⟩ := cls72 w.params
  have hC := X _ _ e72
  have hcB : m72.contains (.type "BaseException") = true := by decide
  obtain ⟨hp, g, d, tk, os⟩ := s₁
  repeat (first | with_reducible refine wpAny_loadPart_at he ?_ | with_reducible refine wpAny_loadPart_at hC ?_ | (with_reducible refine wpAny_isSubtype_exc hC ?_; rw [hcB]) | wp_step)
  exact wpAny_raiseNew_none hh hE
theorem Raise72 {ex : Expr} {pos : Pos} (hh : A.handled = none)
    (h : wpAny (model prog w) A (eval ex env) (fun v s₁ => ∃ e dd t, v = .ref e ∧ (KN w.params).In s₁.heap ∧ s₁.heap.get? e = some (excO dd t) ∧ E (.ref e) s₁) E s) : wpAny (model prog w) A (exec (.Raise (some ex) none pos) env) Q E s := by
  rw [arm_exec_Raise]
  simp only [evalOpt, Option.map]
  exact wpAny_bind (wpAny_standAt (raise72 hh (wpAny_bind (wpAny_mono h (fun v s₃ h₃ => wpAny_bind (wpAny_standAt (wpAny_pure h₃))) fun _ _ x => x))))
end
section
variable {prog : Program} {w : World} {A₀ : Around} {E : Value → Shared → Prop} {s' : Shared} {base g G : Heap} {outer : List Env} {L a e t dd : Addr} {m : Str → Option Value} {name : Str} {scope : Scope} {cd : Value}
  {n : Str} {b₀ : Stmt} {suite : List Stmt} {pos np : Pos} {rest : List ExceptHandler} {Q : Flow → Shared → Prop} {news : List (Addr × Obj)} {p : Program} {loose : List Str} {mean : ExcName → Option Value} {mg mb : Str → Option Value} {x : Str}
theorem caughtD (R : RaisedD base G (envOf name scope L a cd :: outer) e (.ref t) dd news s'.heap) (F : Fr g L G m) (K : Below A₀ base outer g) (hsm : G.UpToSlots s'.heap) (XB : (KN w.params).In base) (TB : Top p loose mean mg mb base)
    (D : KtsDicts (outer.filterMap (·.frame)) g) (ex : nsIn (KN w.params) mainGlobals x = some (some (.ref 72)))
    (k : ∀ h' g' oe ws tk, KtsTurn (outer.filterMap (·.frame)) g g' → Fr g' L h' (fun y => if y = n then some (.ref e) else m y) → News g' L h' ((e, ⟨.ref 72, some dd, .fields ws, oe⟩) :: news) → Below A₀ base outer g' → (KN w.params).In g' → Top p loose mean mg mb g' → KtsDicts (outer.filterMap (·.frame)) g' →
      wpAny (model prog w) ((A₀.deeper (envOf name scope L a cd)).mark (some (.ref e))) (execs (b₀ :: suite) (envOf name scope L a cd))
        (fun f s₄ => wpAny (model prog w) (A₀.deeper (envOf name scope L a cd)) (do bindName (envOf name scope L a cd) n .none; unbindBehindTheSuite (envOf name scope L a cd) n pos) (fun _ s₅ => Q f s₅) E s₄)
        (AsSuiteRaised (model prog w) ((A₀.deeper (envOf name scope L a cd)).mark (some (.ref e))) (envOf name scope L a cd) n pos (notedBy (model prog w) ((A₀.deeper (envOf name scope L a cd)).mark (some (.ref e))) (envOf name scope L a cd) (cameBackBy (model prog w) (A₀.deeper (envOf name scope L a cd)) (envOf name scope L a cd) E)))
        { s' with heap := h', toks := tk })
    (hk : scope.kind = .function) (hlo : (envOf name scope L a cd).kindOf n = some .local) (hx : (envOf name scope L a cd).kindOf x = some .globalImplicit) (hd : (x == ("__debug__" : Str)) = false) :
    wpAny (model prog w) (A₀.deeper (envOf name scope L a cd)) (noteFrame (.ref e) (envOf name scope L a cd))
      (fun _ s₂ => wpAny (model prog w) (A₀.deeper (envOf name scope L a cd)) (setFlight (.ref e) none) (fun _ s₃ =>
        wpAny (model prog w) (A₀.deeper (envOf name scope L a cd)) (handleBy (.ref e) (envOf name scope L a cd) (.ExceptHandler (some (.Name x np)) (some n) (b₀ :: suite) pos :: rest)) Q E s₃) E s₂) E s' := by
  obtain ⟨B, hB, hBG, hl, hen, hfl, o1, ho1, hd1⟩ := R
  have hL : B.get? L = none := by
    obtain ⟨_, ⟨L', _, hf, hn', _⟩, _⟩ := hfl.2.2.1
    obtain rfl : L = L' := Option.some.inj hf
    exact hn'
  refine wpAny_mono (calm_any (calm_note _ _) (wpAny_looks_onW (Q := fun _ s₂ => ∃ h', s₂ = { s' with heap := h' } ∧ Heap.HeldW B (envOf name scope L a cd :: outer) e (.ref 72) (.ref t) L h' ∧ s'.heap.UpToSlots h') (E := E) (Around.frames_deeper K.stack) rfl hfl fun h₄ x1 x2 => ⟨h₄, rfl, x1, x2⟩)) (fun _ s₂ y => ?_) fun _ _ y => y.1
  obtain ⟨⟨h₄, rfl, hheld₄, hsm₄⟩, kd₄⟩ := y
  obtain ⟨o2, ho2, hd2⟩ := kd₄ _ _ ho1
  refine wpAny_mono (calm_any (calm_setFlight _ _) (wpAny_landsW (Q := fun _ s₂ => ∃ h', s₂ = { s' with heap := h' } ∧ Heap.FlyingW B (envOf name scope L a cd :: outer) e (.ref 72) (.ref t) h' ∧ Heap.UpToSlots h₄ h') (E := E) hheld₄ fun h₅ x1 x2 => ⟨h₅, rfl, x1, x2⟩)) (fun _ s₂ y => ?_) fun _ _ y => y.1
  obtain ⟨⟨h₅, rfl, hheld, hsm₅'⟩, kd₅⟩ := y
  obtain ⟨o3, ho3, hd3⟩ := kd₅ _ _ ho2
  have hsm₅ := hsm₄.trans hsm₅'
  obtain ⟨g₅, T₅, F₅, K₅⟩ := kts_ground K F hBG hheld.1 (hsm.trans hsm₅)
  have X₅ : (KN w.params).In g₅ := XB.keeps K₅.stays
  have P₅ : TopRead p loose mg mb g₅ := topRead_of (TB.keeps K₅.stays)
  obtain ⟨ob, hob, hobc⟩ := hheld.there
  obtain ⟨nm, q', bs, sn, sub, ab, col, d0, k0, k1, k2, k3, k5, e72⟩ := cls72 w.params
  have hC₅ := F₅.keep _ _ (X₅ _ _ e72)
  refine wpAny_handleBy_cons (codeAny_handlers_test (name_K F₅ X₅ P₅ ex ?_ hk hx hd)) (by intro q; cases q)
  refine wpAny_excMatches_sub_self hC₅ hob hobc (by decide) (codeAny_handlers_suite_as ?_)
  refine wpAny_mono (calm_any (calm_setFlight _ _) (lands_againW (Q := fun _ s₂ => ∃ h', s₂ = { s' with heap := h' } ∧ Heap.FlyingW B (envOf name scope L a cd :: outer) e (.ref 72) (.ref t) h' ∧ Heap.UpToSlots h₅ h') hheld fun h₆ x1 x2 => ⟨h₆, rfl, x1, x2⟩)) (fun _ s₂ y => ?_) fun _ _ y => y.1
  obtain ⟨⟨h₆, rfl, hfl₆, hsm₆⟩, kd₆⟩ := y
  obtain ⟨o4, ho4, hd4⟩ := kd₆ _ _ ho3
  obtain ⟨g₆, T₆, F₆, K₆⟩ := kts_ground K F hBG hfl₆.1 ((hsm.trans hsm₅).trans hsm₆)
  obtain ⟨oe, ws, hoe, hoec, hoed, hoe0⟩ := hfl₆.first
  obtain rfl : o4 = oe := Option.some.inj (ho4.symm.trans hoe)
  have hdd : o4.dict = some dd := hd4.trans (hd3.trans (hd2.trans hd1))
  obtain ⟨oc, od, odt, osl⟩ := o4
  dsimp only at hoec hoed hdd
  subst hoec hoed hdd
  have ne₆ : g₆.get? e = none := T₆.none_ _ (kts_fresh F hBG hfl₆.2.1 fun o ho m => by
    obtain ⟨_, o', ho', hd⟩ := K.frames.mem m
    rw [ho] at ho'
    cases ho'
    obtain ⟨sl, hs⟩ := ((hsm.trans hsm₅).trans hsm₆) _ _ (F.keep _ _ ho) hd
    rw [hoe] at hs
    exact hd ws (congrArg Obj.data (Option.some.inj hs)).symm)
  have Nl : News g₆ L h₆ news := fun q hq => ⟨hfl₆.1 _ _ (hl q hq).1, (fun z => by have := (hl q hq).1; rw [z, hL] at this; cases this), T₆.none_ _ (kts_none F.keep (hl q hq).2.1)⟩
  have N₆ := News.more F₆ Nl hoe (fun es n q => by cases q) ne₆
  exact stN F₆ N₆ (fun h₇ F₇ N₇ => k h₇ g₆ _ _ _ T₆ F₇ N₇ K₆ (XB.keeps K₆.stays) (TB.keeps K₆.stays) (D.turn T₆)) hk hlo
end
end Mine
end
noncomputable section
open PySem PySem.W PyProof.Rows PySem.Calls
set_option Elab.async false
set_option maxRecDepth 100000
set_option maxHeartbeats 4000000
namespace Mine
noncomputable def ConR (G : Gl) (f : Addr) (vs : List Value) (news : News') (D U : Nat) (post : News' → Addr → Prop) : Prop :=
  ∀ (dp un : Nat) (gd : Option (List Code)) (cn : Str) (cs : Scope) (a : Addr) (ccd : Value) (cl : List (Str × Addr)) (outer : List Env) (A₀ : Around) (base h₀ : Heap) (L : Addr) (m : Str → Option Value) (s : Shared)
    (Q E : Value → Shared → Prop),
    Below A₀ base outer h₀ → Fr h₀ L s.heap m → (KN G.w.params).In h₀ → News h₀ L s.heap news → Top topProg G.loose G.mean G.mg G.mb h₀ → cs.kind = .function → dp + D < recursionLimit → un + U < cLine →
    (∀ g e t dd news' h' tk', Fr h₀ L g m → RaisedD base g (envX cn cs L a ccd cl :: outer) e (.ref t) dd news' h' → g.UpToSlots h' → post news' dd → E (.ref e) { s with heap := h', toks := tk' }) →
    wpAny (model PySem.Challenge.rw_qd0103_01.prog G.w) (ktrTop dp un gd cn cs L a ccd cl outer) (call (.ref f) vs) Q E s
theorem conR_use {G : Gl} {f : Addr} {vs : List Value} {news : News'} {D U : Nat} {post : News' → Addr → Prop}
    {dp un : Nat} {gd : Option (List Code)} {cn : Str} {cs : Scope} {a : Addr} {ccd : Value} {cl : List (Str × Addr)} {outer : List Env} {A₀ : Around} {base h₀ : Heap} {L : Addr} {m : Str → Option Value} {s : Shared} {Q E : Value → Shared → Prop}
    (C : ConR G f vs news D U post)
    (B : Below A₀ base outer h₀) (F : Fr h₀ L s.heap m) (X : (KN G.w.params).In h₀) (N : News h₀ L s.heap news) (T : Top topProg G.loose G.mean G.mg G.mb h₀) (hk : cs.kind = .function) (hd : dp + D < recursionLimit) (hu : un + U < cLine)
    (ret : ∀ g e t dd news' h' tk', Fr h₀ L g m → RaisedD base g (envX cn cs L a ccd cl :: outer) e (.ref t) dd news' h' → g.UpToSlots h' → post news' dd → E (.ref e) { s with heap := h', toks := tk' }) :
    wpAny (model PySem.Challenge.rw_qd0103_01.prog G.w) (ktrTop dp un gd cn cs L a ccd cl outer) (call (.ref f) vs) Q E s := C _ _ _ _ _ _ _ _ _ _ _ _ _ _ _ _ _ B F X N T hk hd hu ret
noncomputable def FailAt (news : News') (r : Addr) (q : RP) (ts : Toks) (p : Nat) (news' : News') (dd : Addr) : Prop :=
  ∃ h1 h2 k1 k2 x tu n u w led pt, news' = (dd, dictOf [⟨h1, .str "what" k1, x⟩, ⟨h2, .str "at" k2, .ref tu⟩] 2) :: led ∧ RS led r q ts p pt ∧ Keeps news led q.dr ∧ (∀ x ∈ led, x.1 ≠ dd) ∧ (tu, tupK #[.int ((p : Int) + 1) u, .int 12 w] n) ∈ led
theorem FailAt.back {a b : News'} {r : Addr} {q : RP} {ts : Toks} {p : Nat} {news' : News'} {dd : Addr} (K : Keeps a b q.dr) (h : FailAt b r q ts p news' dd) : FailAt a r q ts p news' dd := by
  obtain ⟨h1, h2, k1, k2, x, tu, n, u, w, led, pt, e, R, K', s, m⟩ := h
  exact ⟨h1, h2, k1, k2, x, tu, n, u, w, led, pt, e, R, K.trans K', s, m⟩
theorem RF.mv {news news' : News'} {r : Addr} {q : RP} {ts : Toks} {p p' : Nat} {pt pt' : Tok} {ys : List Value} (R : RF news r q ts p pt ys) (R' : RS news' r q ts p' pt') (K : Keeps news news' q.dr) : RF news' r q ts p' pt' ys := by
  refine ⟨R', keepL R.rs K R.tl, fun j k w e => ?_, R.len⟩
  obtain ⟨t, tp, a, n, u, v, h1, h2, h3, h4⟩ := R.ats j k w e
  exact ⟨t, tp, a, n, u, v, h1, h2.kept R.rs K, h3, keptT R.rs K _ _ _ h4⟩
theorem rest_of {l : News'} {e dd t : Addr} {o : Obj} (z1 : ∀ x ∈ l, x.1 ≠ e) (z2 : dd ≠ e) : ∀ q ∈ (dd, o) :: l, q ∈ (dd, o) :: (e, excO dd t) :: l ∧ q.1 ≠ e := fun q hq => by
  rcases List.mem_cons.mp hq with rfl | hq
  · exact ⟨.head _, z2⟩
  · exact ⟨.tail _ (.tail _ hq), z1 q hq⟩
theorem raise_stop {prog : Program} {w : World} {A : Around} {E : Value → Shared → Prop} {s : Shared} {env : Env} {Q : Flow → Shared → Prop} {ex : Expr} {pos : Pos} (hh : A.handled = none)
    (h : wpAny (model prog w) A (eval ex env) (fun v s₁ => Stop (∃ e dd t, v = .ref e ∧ (KN w.params).In s₁.heap ∧ s₁.heap.get? e = some (excO dd t) ∧ E (.ref e) s₁)) E s) : wpAny (model prog w) A (exec (.Raise (some ex) none pos) env) Q E s :=
  Raise72 hh (wpAny_mono h (fun _ _ x => x.go) fun _ _ x => x)
section
variable {G : Gl} {news : News'} {r : Addr} {q : RP} {ts : Toks} {p : Nat} {pt : Tok} {ys : List Value}
theorem kw_R42_1 : True := by
  (k_with "exec Raise some none" => ((fail_if_success k_extra "past R42"); ((k_here; k_dflt (refine' raise_stop rfl ?_)))))
  (k_with "MINE call" => ((fail_if_success k_extra "past R42"); (((with_reducible show wpAny _ _ (call (Value.ref 314) _ _) _ _ _); refine' con_use (fault_c RFc hlt _ _) ?B9 ?F9 ?X9 ?N9 ?T9 ?K9 ?D9 ?U9 ?_; walk_at "MINE use"; intro r9 news9 h9 tk9 F9 N9 p9))))
  trivial
theorem add_s {prog : Program} {A : Around} {E : Value → Shared → Prop} {s : Shared} {x y : Str} {t u : Tok} {Q : Value → Shared → Prop} (hz : x.length ≤ 100) (hy : y.length ≤ 100) (h : ∀ z t' tk, Q (.str z t') { s with toks := tk }) : wpAny (model prog w) A (binaryOp .Add (.str x t) (.str y u)) Q E s :=
  add_str (fun t' tk => h _ t' tk) (Nat.le_trans (by omega : x.length + y.length ≤ 200) (Nat.le_of_ble_eq_true rfl))
theorem kw_R42_2 : True := by
  (k_with "binaryOp Add str str" => ((fail_if_success k_extra "past R42"); ((k_here; k_dflt (refine' add_s ?z9 ?y9 ?_; (case z9 => exact hwl); (case y9 => decide +kernel)); intro z9 t9 tk9; k_sweep))))
  (k_with "MINE failed" => ((fail_if_success k_extra "past R42"); ((
  obtain ⟨e9, dd9, t9, g1, g2, k1, k2, x9, tu9, n9, u9, w9, y9, z1, z2, z3, z4, z5⟩ := p9
  subst y9; subst z1
  refine Stop.mk ⟨e9, dd9, t9, rfl, Frag.In.keeps (by k_asm) (Fr.keep (by k_asm)), (N9 _ (.tail _ (.head _))).1, ?_⟩))))
  (k_with "MINE off" => ((fail_if_success k_extra "past R42"); ((
  show wpAny _ _ (leaving _ _) _ _ _
  refine' leave_firstD B' ?F8 N9 (.tail _ (.head _)) (rest_of z2 z3) ?Q8 rfl
  case F8 => k_asm
  intro h8 R8 U8
  refine hret _ _ _ _ _ _ _ FG' R8 U8 ?_))))
  trivial
theorem need_no (R : RF news r q ts p pt ys) (hlt : p < ts.length) (wd : Str) (dt : Tok) (ow : One wd) (hwl : wd.length ≤ 100) (e : isKW ts p sWord wd = false) :
    ConR G 350 [.ref r, .str wd dt] news 20 140 (fun news' dd => FailAt news r q ts p news' dd) := by
  have RFc := R
  obtain ⟨R, htl, hats, hlen⟩ := R
  obtain ⟨hr, hd9, _, _, _, _, _⟩ := id R
  walk_at "MINE enter"
  k_steps
  walk_at "MINE failed"
  walk_at "MINE off"
  exact ⟨_, _, _, _, _, _, _, _, _, _, _, rfl, R, Keeps.refl _ _, z4, z5⟩
end
theorem kw_R42_end : True := by
  (k_with "past R42" => skip)
  trivial
end Mine
end
noncomputable section
open PySem PySem.W PyProof.Rows PySem.Calls
set_option Elab.async false
set_option maxRecDepth 100000
set_option maxHeartbeats 4000000
namespace Mine
section
variable {G : Gl} {news : News'} {r : Addr} {q : RP} {ts : Toks} {p : Nat} {pt : Tok} {ys : List Value}
theorem kw_R43_1 : True := by
  (k_with "exec Raise some none" => ((fail_if_success k_extra "past R43"); ((k_here; k_dflt (refine' raise_stop rfl ?_)))))
  (k_with "MINE failed" => ((fail_if_success k_extra "past R43"); ((
  obtain ⟨e9, dd9, t9, g1, g2, k1, k2, x9, tu9, n9, u9, w9, y9, z1, z2, z3, z4, z5⟩ := p9
  subst y9; subst z1
  refine Stop.mk ⟨e9, dd9, t9, rfl, Frag.In.keeps (by k_asm) (Fr.keep (by k_asm)), (N9 _ (.tail _ (.head _))).1, ?_⟩))))
  (k_with "MINE off" => ((fail_if_success k_extra "past R43"); ((
  show wpAny _ _ (leaving _ _) _ _ _
  refine' leave_firstD B' ?F8 N9 (.tail _ (.head _)) (rest_of z2 z3) ?Q8 rfl
  case F8 => k_asm
  intro h8 R8 U8
  refine hret _ _ _ _ _ _ _ FG' R8 U8 ?_))))
  (k_with "MINE on" => ((fail_if_success k_extra "past R43"); ((
  show wpAny _ _ (leaving _ _) _ _ _
  refine' leave_onD B' F9 R9 U9 ?Q8
  intro h8 R8 U8
  refine hret _ _ _ _ _ _ _ FG' R8 U8 ?_))))
  trivial
section
theorem kw_R43_2 : True := by
  (k_with "MINE call" => ((fail_if_success k_extra "past R43"); (((with_reducible show wpAny _ _ (call (Value.ref 314) _ _) _ _ _); refine' con_use (fault_c RFc hlt _ _) ?B9 ?F9 ?X9 ?N9 ?T9 ?K9 ?D9 ?U9 ?_; walk_at "MINE use"; intro r9 news9 h9 tk9 F9 N9 p9))))
  trivial
theorem op_none (R : RF news r q ts p pt ys) (hlt : p < ts.length) (sm : Small ts) (e : beginsB G.w.params ts p = false) :
    ConR G 258 [.ref r] news 24 180 (fun news' dd => FailAt news r q ts p news' dd) := by
  have RFc := R
  obtain ⟨R, htl, hats, hlen⟩ := R
  obtain ⟨hr, hd9, _, _, _, _, _⟩ := id R
  walk_at "MINE enter"
  k_steps
  walk_at "MINE failed"
  walk_at "MINE off"
  exact ⟨_, _, _, _, _, _, _, _, _, _, _, rfl, R, Keeps.refl _ _, z4, z5⟩
end
section
theorem kw_R43_3 : True := by
  (k_with "MINE call" => ((fail_if_success k_extra "past R43"); (((with_reducible show wpAny _ _ (call (Value.ref 258) _ _) _ _ _); refine' conR_use (op_none (RFc.mv ?R9 ?k9) hlt sm hb) ?B9 ?F9 ?X9 ?N9 ?T9 ?K9 ?D9 ?U9 ?_; (case R9 => walk_at "MINE rs"); (case k9 => walk_at "MINE keeps"); walk_at "MINE use"; intro g9 e9 t9 dd9 news9 h9 tk9 F9 R9 U9 p9; refine Stop.go ?_))))
  trivial
theorem rd_f1 (R : RF news r q ts 0 pt ys) (hlt : 1 < ts.length) (sm : Small ts) (f : Addr) (t0 : ts[0]? = some (sWord, wDISPLAY)) (hb : beginsB G.w.params ts 1 = false) :
    ConR G 265 [.ref r, .ref f] news 44 260 (fun news' dd => FailAt news r q ts 1 news' dd) := by
  have RFc := R
  obtain ⟨R, htl, hats, hlen⟩ := R
  obtain ⟨hr, hd9, _, _, _, _, _⟩ := id R
  have k0 : isKW ts 0 sWord wDISPLAY = true := isKW_of t0 (by decide +kernel)
  walk_at "MINE enter"
  rw [sw_tuple, sw_append]
  k_steps
  refine Stop.mk ?_
  walk_at "MINE on"
  exact p9.back (by walk_at "MINE keeps")
end
end
theorem kw_R43_end : True := by
  (k_with "past R43" => skip)
  trivial
end Mine
end
noncomputable section
open PySem PySem.W PyProof.Rows PySem.Calls
set_option Elab.async false
set_option maxRecDepth 100000
set_option maxHeartbeats 4000000
namespace Mine
section
variable {G : Gl} {news : News'} {r : Addr} {q : RP} {ts : Toks} {p : Nat} {pt : Tok} {ys : List Value}
theorem kw_R44_1 : True := by
  (k_with "MINE on" => ((fail_if_success k_extra "past R44"); ((
  show wpAny _ _ (leaving _ _) _ _ _
  refine' leave_onD B' F9 R9 U9 ?Q8
  intro h8 R8 U8
  refine hret _ _ _ _ _ _ _ FG' R8 U8 ?_))))
  (k_with "MINE call" => ((fail_if_success k_extra "past R44"); (((with_reducible show wpAny _ _ (call (Value.ref 258) _ _) _ _ _); refine' con_ret (hop ?R9) ?B9 ?F9 ?X9 ?N9 ?T9 ?D9 ?U9 ?_; walk_at "MINE useS"; walk_at "MINE ret"))))
  (k_with "MINE call" => ((fail_if_success k_extra "past R44"); (((with_reducible show wpAny _ _ (call (Value.ref 350) _ _) _ _ _); refine' conR_use (need_no (RFc.mv ?R9 ?k9) hlt _ _ ?c9 (by decide +kernel) hno) ?B9 ?F9 ?X9 ?N9 ?T9 ?K9 ?D9 ?U9 ?_; (case R9 => walk_at "MINE rs"); (case k9 => walk_at "MINE keeps"); walk_at "MINE use"; intro g9 e9 t9 dd9 news9 h9 tk9 F9 R9 U9 p9; refine Stop.go ?_))))
  trivial
theorem rd_f2 (R : RF news r q ts 0 pt ys) (hlt : 2 + 1 < ts.length) (sm : Small ts) (f : Addr) (t0 : ts[0]? = some (sWord, wDISPLAY)) (hat : At ts 1 (itToks 4)) (hN : NextOk ts 2) (hb : beginsB G.w.params ts 2 = false)
    (h2 : isKW ts 2 sWord wWITH = false) (h3 : isKW ts 2 sWord wNO = true) (hno : isKW ts (2 + 1) sWord wADVANCING = false) :
    ConR G 265 [.ref r, .ref f] news 60 280 (fun news' dd => FailAt news r q ts 3 news' dd) := by
  have RFc := R
  obtain ⟨R, htl, hats, hlen⟩ := R
  obtain ⟨hr, hd9, _, _, _, _, _⟩ := id R
  have k0 : isKW ts 0 sWord wDISPLAY = true := isKW_of t0 (by decide +kernel)
  have hop : ∀ {led : News'} {pt' : Tok}, RS led r q ts (0 + 1) pt' → Con G 258 [.ref r] led 36 228 (fun news' v => MV led r q ts 2 news' ∧ DatIn news' v (itTree 4)) := fun R' => op_all 4 (by decide) R' sm hat hN
  walk_at "MINE enter"
  rw [sw_tuple, sw_append]
  k_steps
  refine Stop.mk ?_
  walk_at "MINE on"
  exact p9.back (by walk_at "MINE keeps")
theorem rd_f3 (R : RF news r q ts 0 pt ys) (hlt : 2 + 1 + 1 < ts.length) (sm : Small ts) (f : Addr) (t0 : ts[0]? = some (sWord, wDISPLAY)) (hat : At ts 1 (itToks 4)) (hN : NextOk ts 2) (hb : beginsB G.w.params ts 2 = false)
    (h2 : isKW ts 2 sWord wWITH = true) (h3 : isKW ts (2 + 1) sWord wNO = true) (hno : isKW ts (2 + 1 + 1) sWord wADVANCING = false) {kd wo : Str} (e2 : ts[2]? = some (kd, wo)) :
    ConR G 265 [.ref r, .ref f] news 60 280 (fun news' dd => FailAt news r q ts 4 news' dd) := by
  have RFc := R
  obtain ⟨R, htl, hats, hlen⟩ := R
  obtain ⟨hr, hd9, _, _, _, _, _⟩ := id R
  have k0 : isKW ts 0 sWord wDISPLAY = true := isKW_of t0 (by decide +kernel)
  have hop : ∀ {led : News'} {pt' : Tok}, RS led r q ts (0 + 1) pt' → Con G 258 [.ref r] led 36 228 (fun news' v => MV led r q ts 2 news' ∧ DatIn news' v (itTree 4)) := fun R' => op_all 4 (by decide) R' sm hat hN
  walk_at "MINE enter"
  rw [sw_tuple, sw_append]
  k_steps
  refine Stop.mk ?_
  walk_at "MINE on"
  exact p9.back (by walk_at "MINE keeps")
end
theorem kw_R44_end : True := by
  (k_with "past R44" => skip)
  trivial
end Mine
end
noncomputable section
open PySem PySem.W PyProof.Rows PySem.Calls PySem.Spec
set_option Elab.async false
set_option maxRecDepth 100000
namespace Mine
section
variable {prog : Program} {w : World} {A₀ A : Around} {s : Shared} {base h₀ : Heap} {L a : Addr} {m : Str → Option Value} {env : Env} {news : List (Addr × Obj)} {K : Frag} {p : Program} {loose : List Str} {mean : ExcName → Option Value} {mg mb : Str → Option Value}
    {R : Result → Shared → Prop} {name qual : Str} {params : Arguments} {body : List Stmt} {scope : Scope} {dV kV doc pm cdv ct oc : Value} {an od : Option Addr} {osl : Array (Option Value)} {f : Addr} {args : Args} {binds : List (Str × Value)}
theorem code_turn (B : Below A₀ base [] h₀) (F : Fr h₀ L s.heap m) (X₀ : K.In h₀) (N : News h₀ L s.heap news) (T : Top p loose mean mg mb h₀) (hA : A.frames = some [env]) (hf : env.frame = some L) (hke : env.scope.kind = .function)
    (ho : K.lookup f = some ⟨oc, od, .func (fnOf name qual params body scope dV kV doc pm an cdv ct), osl⟩) (hcd : codeIn K cdv qual = true) (hroom : A.depth < recursionLimit)
    (hbind : BindsTo s (fnOf name qual params body scope dV kV doc pm an cdv ct) args binds) (hloc : ∀ y ∈ binds, scope.names.lookup y.1 = some .local)
    (h : ∀ g L' h₁, Fr h₀ L g m → Fr g L' h₁ (fun y => binds.reverse.lookup y) → News g L' h₁ news → Below A base [env] g → K.In g → Top p loose mean mg mb g → KtsDicts ([env].filterMap (·.frame)) g →
      wpAny (model prog w) (A.deeper (envOf qual scope L' f cdv)) (execs body (envOf qual scope L' f cdv))
        (fun fl s' => LeaveS0 ([env].filterMap (·.frame)) h₀ L m g R (match fl with | .ret v => v | _ => .none) s')
        (fun e s' => wpAny (model prog w) (A.deeper (envOf qual scope L' f cdv)) (leaving (envOf qual scope L' f cdv) e) (fun _ s'' => R (.error e) s'') (fun e' s'' => R (.error e') s'') s')
        { s with heap := h₁, toks := s.toks + binds.length })
    (hco : scope.isCoroutine = false) (hgen : scope.isGenerator = false) (hk : scope.kind = .function)
    (hcell : ∀ x ∈ scope.names, x.2 ≠ .cell) : codeAny (model prog w) A (.call (.ref f) args) R s := by
  have X := X₀.keeps F.keep
  have hfs : ∀ b, b ∈ [env].filterMap (·.frame) → b = L := fun b hb => by
    obtain ⟨e', he, hf'⟩ := List.mem_filterMap.mp hb
    rw [List.mem_singleton.mp he, hf] at hf'
    exact (Option.some.inj hf').symm
  obtain ⟨FG, BG, st, lv⟩ := groundX (R := R) B F N hA hf hke
  refine codeAny_call_def (fd := fnOf name qual params body scope dV kV doc pm an cdv ct) (body := body) (binds := binds) hroom (X _ _ ho) rfl (T.nolimit.keeps F.keep) (codeRec_of X hcd) rfl hbind hcell hloc (fun h₁ hns hk₁ => ?_) hco hgen hk
  obtain ⟨oL, es, ep, hLg, hLd, hLk, hLf⟩ := FG.ns
  refine wpAny_mono (h _ s.heap.objs.size h₁ FG ⟨hns, fun b o e => hk₁ b o (of_hideAll _ e), Nat.le_of_eq (hideAll_size _ _)⟩
    (fun p hp => ⟨hk₁ _ _ (N p hp).1, Nat.ne_of_lt (Heap.lt_size (N p hp).1), hideAll_none _ (List.mem_map_of_mem hp)⟩) BG (X₀.keeps st) (T.keeps st) (fun b hb => by
      rw [hfs b hb]; exact ⟨oL, es, ep, hLg, hLd⟩)) (fun fl s' hl => ?_) fun _ _ y => y
  obtain ⟨g', L', m', news', T', F', N', k⟩ := hl
  have nL₀ : h₀.get? L = none := kts_self F
  obtain ⟨sl, hs⟩ := T'.up hLg
  refine k ⟨⟨_, es, ep, F'.keep _ _ hs, hLd, hLk, hLf⟩, fun b o e => F'.keep b o (T'.other b o (st b o e) (fun q => by
    rw [hfs b q, nL₀] at e; cases e)), F.above⟩ fun p hp => ⟨(N' p hp).1, fun q => ?_, ?_⟩
  · have := (N' p hp).2.2; rw [q, hs] at this; cases this
  · cases q : h₀.get? p.1 with
    | none => rfl
    | some o =>
      obtain ⟨sl', hs'⟩ := T'.up (st _ _ q)
      have := (N' p hp).2.2
      rw [hs'] at this
      cases this
end
end Mine
end
noncomputable section
open PySem PySem.W PyProof.Rows PySem.Calls
set_option Elab.async false
set_option maxRecDepth 100000
set_option maxHeartbeats 4000000
namespace Mine
noncomputable def ConS (G : Gl) (f : Addr) (vs : List Value) (news : News') (D U : Nat) (post : News' → Value → Prop) : Prop :=
  ∀ (dp un : Nat) (gd : Option (List Code)) (cn : Str) (cs : Scope) (a : Addr) (ccd : Value) (cl : List (Str × Addr)) (A₀ : Around) (base h₀ : Heap) (L : Addr) (m : Str → Option Value) (s : Shared)
    (Q E : Value → Shared → Prop),
    Below A₀ base [] h₀ → Fr h₀ L s.heap m → (KN G.w.params).In h₀ → News h₀ L s.heap news → Top topProg G.loose G.mean G.mg G.mb h₀ → cs.kind = .function → dp + D < recursionLimit → un + U < cLine →
    (∀ r news' h' tk', Fr h₀ L h' m → News h₀ L h' news' → post news' r → Q r { s with heap := h', toks := tk' }) →
    wpAny (model PySem.Challenge.rw_qd0103_01.prog G.w) (ktrTop dp un gd cn cs L a ccd cl []) (call (.ref f) vs) Q E s
theorem AtsOk.tabbed {a b : News'} {P : Addr} {pos : Pos} {ts : Toks} {ys : List Value} (H : TabP P pos a) (nd : (a.map (·.1)).Nodup) (s : ∀ x ∈ a, x.1 ≠ P → x ∈ b) (h : AtsOk a ts ys) : AtsOk b ts ys := fun j k w e => by
  obtain ⟨ps, m, _⟩ := H
  obtain ⟨t, tp, x, n, u, v, h1, h2, h3, h4⟩ := h j k w e
  exact ⟨t, tp, x, n, u, v, h1, ⟨s _ h2.inst (ne_at nd h2.inst m (tab_inst _ _ _)), s _ h2.dict (ne_at nd h2.dict m (tab_tok _ _ _ _))⟩, h3, s _ h4 (ne_at nd h4 m (tab_tup _ _ _))⟩
section
variable {G : Gl} {news : News'}
theorem kw_R45_1 : True := by
  (k_with "MINE enterS" => ((fail_if_success k_extra "past R45"); ((
  intro dp un gd cn cs a ccd cl A₀ base h₀ L m s Q E B0 F
  k_fill
  intro X N T hk hd hu hret
  have B : Below A₀ h₀ [] h₀ := ⟨B0.stack, fun _ _ e => e, trivial⟩
  clear B0
  refine wpAny_call ?_
  k_dflt (refine' code_turn ?k1 ?k2 ?k3 ?k4 ?k5 ?kA ?kF ?kK ?k6 ?k7 ?k8 ?k9 ?kB ?_ ?c2 ?c3 ?c4 ?c5; (case kA => exact rfl); (case kF => exact rfl); (case kK => assumption); (case k1 => exact B); (case k2 => k_asm); (case k3 => k_asm); (case k4 => k_asm); (case k5 => k_asm); (case k6 => k_is); (case k7 => k_is); (case k8 => ktr_room); (case k9 => first | exact BindsTo.of_eq rfl | exact binds_K (by k_in) rfl (by k_is) rfl rfl rfl); (case c5 => decide); (case kB => exact locs rfl); (case c2 => exact rfl); (case c3 => exact rfl); (case c4 => exact rfl); k_whole; intro g' L' h' FG' F' N' B' X' T' D'; (try w_binds F'); (try dsimp only); (try k_fold))))))
  (k_with "MINE use2" => ((fail_if_success k_extra "past R45"); (((case B9 => k_asm); (case F9 => k_asm); (case X9 => k_asm); (case T9 => k_asm); (case K9 => first | exact rfl | assumption); (case D9 => ktr_room); (case U9 => ktr_units)))))
  (k_with "MINE call" => ((fail_if_success k_extra "past R45"); (first
  | ((with_reducible show wpAny _ _ (call (Value.ref 509) _ _) _ _ _); refine' con_use (lr_c hT nd0 hlen tab0) ?B9 ?F9 ?X9 ?N9 ?T9 ?K9 ?D9 ?U9 ?_; (case N9 => k_asm); walk_at "MINE use2"; (intro r9 news9 h9 tk9 F9 N9 p9; obtain ⟨ra9, q9, pt9, ys9, x9, Rn9, s9, a9, hl9, at9⟩ := p9; subst x9; have hri9 := Rn9.inst; have hrd9 := Rn9.dict; (try k_sweep); (try dsimp only); (try k_fold)))
  | ((with_reducible show wpAny _ _ (call (Value.ref 265) _ _) _ _ _); refine' conR_use (rd _ RFn) ?B9 ?F9 ?X9 ?N9 ?T9 ?K9 ?D9 ?U9 ?_; (case N9 => k_asm); walk_at "MINE use2"; intro g9 e9 t9 dd9 news9 h9 tk9 F9 R9 U9 p9; refine Stop.go ?_))))
  (k_with "eval Lambda" => ((fail_if_success k_extra "past R45"); ((k_here; k_dflt (refine' kla_eval ?d0 ?_; (case d0 => exact rfl)); k_dflt (refine' lam_stepP Rn9 ?H9 ?P9 ?F9 ?N9 ?T9 ?C9 ?cd9 ?cl9 ?_; (case N9 => k_asm); (case F9 => k_asm); (case T9 => k_asm); (case cd9 => exact rfl); (case cl9 => exact rfl); (case C9 => exact lam_codeF (by k_asm)); (case P9 => decide); (case H9 => exact TabP.mono (pos := posF) tabF0 (fun x8 h8 => s9 _ h8))); (have ndP := RS.nodup Rn9); (have tP9 : TabP 532 posF _ := TabP.mono tabF0 (fun x8 h8 => s9 _ h8)); intro f9 led9 h9 tk9 F9 N9 Rl9 sP9 tR9; have RFn : RF led9 _ _ _ _ _ _ := ⟨Rl9, sP9 _ hl9 (tab_lt tP9 ndP hl9), at9.tabbed tP9 ndP sP9, ats_len Rn9 hl9⟩; (try dsimp only); (try k_fold)))))
  (k_with "getAttr ref" => ((fail_if_success k_extra "past R45"); ((k_here; (with_reducible show wpAny _ _ (getAttr (Value.ref _) (Str.ofString "at") _) _ _ _); k_dflt (refine' get72 ?F9 ?X9 (N6 _ (.head _)).1 (N6 _ (.tail _ (.head _))).1 (at72 _) ?l9 ?h9 ?_; (case F9 => k_asm); (case X9 => k_asm); (case l9 => rfl); (case h9 => rfl); k_whole)))))
  trivial
theorem ats_len {led : News'} {r : Addr} {q : RP} {ts : Toks} {p : Nat} {pt : Tok} {ys : List Value} (R : RS led r q ts p pt) (h : (q.tl, LCg.lst ys) ∈ led) : ys.length = ts.length := by
  obtain ⟨its, n, hl, hs, _⟩ := R.list
  have e := same_at R.nodup h hl
  have : ys.toArray = its := by
    have := congrArg Obj.data e
    simpa using (Data.seq.inj this).1
  rw [← hs, ← this, List.size_toArray]
theorem refused_c (lt : Addr) {ts : Toks} {pi : Nat} (hT : TokList news lt ts) (nd0 : (news.map (·.1)).Nodup) (tab0 : TabOk news) (tabF0 : TabP 532 posF news) (it : Tok) (hlen : ts.length < 1024)
    (rd : ∀ {led : News'} {r : Addr} {q : RP} {pt : Tok} {ys : List Value} (f : Addr), RF led r q ts 0 pt ys → ConR G 265 [.ref r, .ref f] led 60 280 (fun news' dd => FailAt led r q ts pi news' dd)) :
    ConS G 537 [.ref lt, .int pi it] news 80 420 (fun news' v => v = .bool true ∧ LBk 532 posF news news') := by
  walk_at "MINE enterS"
  k_steps
  refine Stop.mk ?_
  obtain ⟨h1, h2, k1, k2, x9, tu9, n9, u9, w9, led8, pt8, e8, R8, K8, s8, m8⟩ := p9
  subst e8
  k_dflt (refine' caughtD R9 F9 B' U9 X T D' ?ex8 ?k8 rfl rfl rfl (by decide))
  case ex8 => k_is
  intro h6 g6 oe6 ws6 tk6 T6 F6 N6 B6 X6 P6 D6
  clear R9 F9 U9 D'
  dsimp only
  rw [sx_at]
  k_steps
  refine hret _ led8 _ _ (by k_asm) (News.less (by k_asm) (fun _ h9 => by first | exact .tail _ (.tail _ (.tail _ h9)) | exact .tail _ (.tail _ h9))) ⟨rfl, ?_⟩
  exact right_fin (led := news) (by decide) (fun _ h => h) s9 sP9 a9 K8 R8 tR9 tabF0
end
theorem kw_R45_end : True := by
  (k_with "past R45" => skip)
  trivial
end Mine
end
noncomputable section
open PySem PySem.W PyProof.Rows PySem.Calls
set_option Elab.async false
set_option maxRecDepth 100000
set_option maxHeartbeats 4000000
namespace Mine
inductive ToksAre (led : News') : List Value → Toks → Prop
  | nil : ToksAre led [] []
  | cons {t : Addr} {k w : Str} {kt wt : Tok} {n : Nat} {vs : List Value} {ts : Toks} : (t, tupK #[.str k kt, .str w wt] n) ∈ led → ToksAre led vs ts → ToksAre led (.ref t :: vs) ((k, w) :: ts)
theorem ToksAre.len {led : News'} : ∀ {vs : List Value} {ts : Toks}, ToksAre led vs ts → vs.length = ts.length
  | _, _, .nil => rfl
  | _, _, .cons _ h => by rw [List.length_cons, List.length_cons, h.len]
theorem ToksAre.at {led : News'} : ∀ {vs : List Value} {ts : Toks}, ToksAre led vs ts → ∀ (i : Nat) (k w : Str), ts[i]? = some (k, w) → ∃ (t : Addr) (kt wt : Tok) (n : Nat), vs[i]? = some (Value.ref t) ∧ (t, tupK #[.str k kt, .str w wt] n) ∈ led
  | _, _, .nil, i, k, w, e => by simp at e
  | _, _, .cons m h, 0, k, w, e => by
    simp only [List.getElem?_cons_zero, Option.some.injEq, Prod.mk.injEq] at e
    obtain ⟨rfl, rfl⟩ := e
    exact ⟨_, _, _, _, rfl, m⟩
  | _, _, .cons m h, i + 1, k, w, e => by
    simpa using h.at i k w (by simpa using e)
theorem TokList.of {led : News'} {l : Addr} {its : Array Value} {n : Nat} {ts : Toks} (m : (l, lstO its n) ∈ led) (h : ToksAre led its.toList ts) : TokList led l ts :=
  ⟨⟨its, n, m, by rw [← Array.length_toList]; exact h.len, fun i k w e => by
    obtain ⟨t, kt, wt, n, h1, h2⟩ := h.at i k w e
    exact ⟨t, kt, wt, n, by rw [← Array.getElem?_toList]; exact h1, h2⟩⟩⟩
theorem OpsAll.append' {a : News'} : ∀ {vs us : List Value} {is js : List Nat}, OpsAll a vs is → OpsAll a us js → OpsAll a (vs ++ us) (is ++ js)
  | _, _, _, _, .nil, k => k
  | _, _, _, _, .cons h1 h2 h3 h4 h, k => .cons h1 h2 h3 h4 (h.append' k)
/-- the operands made so far -/
structure OpsAt (news led : News') (vs : List Value) (is : List Nat) : Prop where
  ops : OpsAll led vs is
  sub : ∀ x ∈ news, x ∈ led
  nd : (news.map (·.1)).Nodup → (led.map (·.1)).Nodup
theorem OpsAt.nil (news : News') : OpsAt news news [] [] := ⟨.nil, fun _ h => h, fun h => h⟩
theorem OpsAt.snoc {news led led' : News'} {vs : List Value} {is : List Nat} (S : OpsAt news led vs is) (K : ∀ x ∈ led, x ∈ led') (N : (led.map (·.1)).Nodup → (led'.map (·.1)).Nodup) {t l : Addr} {v : Value} {n i : Nat} {ts : Toks} {d : Dat}
    (_hi : is.length = i) (hi' : i < 15) (T : TokList led' l ts) (e : ts = itToks i) (D : DatIn led' v d) (ed : d = itTree i) (lt : ∀ x ∈ led', x.1 < t) : OpsAt news ((t, tupK #[.ref l, v] n) :: led') (vs ++ [.ref t]) (is ++ [i]) := by
  subst e ed
  exact ⟨(S.ops.mono fun x h => .tail _ (K x h)).append' (.cons (.head _) (T.mono fun x h => .tail _ h) (D.mono fun x h => .tail _ h) hi' .nil), fun x h => .tail _ (K x (S.sub x h)), fun h => nodup_above lt (N (S.nd h))⟩
noncomputable def NewOps (news news' : News') (v : Value) : Prop :=
  ∃ l its n, v = .ref l ∧ (l, lstO its n) ∈ news' ∧ OpsAll news' its.toList [0, 1, 2, 3, 4, 5, 6, 7, 8, 9, 10, 11, 12, 13, 14] ∧ (∀ x ∈ news, x ∈ news') ∧ ((news.map (·.1)).Nodup → (news'.map (·.1)).Nodup)
theorem mem_hd {a : Addr} {o o' : Obj} {l : News'} (e : o' = o) : (a, o) ∈ (a, o') :: l := e ▸ List.mem_cons_self
section
variable {G : Gl} {sc : Sc} {X : Xx G sc} {K : List Kf} {ml : Ml} {ns : News'} {tk : Nat}
theorem item_c (l : Addr) (v : Value) : Con G 516 [.ref l, v] ns 4 40 (fun news' r => ∃ t n, r = .ref t ∧ news' = (t, tupK #[.ref l, v] n) :: ns ∧ (∀ x ∈ ns, x.1 < t)) := by
  walk_at "V enter"
  walk_at "V steps"
  all_goals (walk_at "V end"; exact ⟨_, _, rfl, rfl, by assumption⟩)
theorem ob_opIt {news0 led : News'} {vs : List Value} {is : List Nat} (S : OpsAt news0 led vs is) {l : Addr} {v : Value} {i : Nat} {ts : Toks} {d : Dat} (k : ∀ x ∈ led, x ∈ ns) (Nd : (led.map (·.1)).Nodup → (ns.map (·.1)).Nodup)
    (_hi : is.length = i) (hi' : i < 15) (Tl : TokList ns l ts) (e : ts = itToks i) (Dt : DatIn ns v d) (ed : d = itTree i) (hd : Nat.ble (4 + 1) sc.D = true) (hu : Nat.ble (40 + 3) sc.U = true)
    (ret : ∀ t ledN tk', OpsAt news0 ledN (vs ++ [.ref t]) (is ++ [i]) → go X 300 (.ret (.v (.ref t))) K ml ledN tk') : Ob X (.call (.ref 516) [.ref l, v]) K ml ns tk :=
  ob_call (item_c l v) hd hu fun v n' tk' p => by
    obtain ⟨t, n, e1, e2, lt⟩ := p
    subst e1 e2
    exact ret t _ tk' (OpsAt.snoc S k Nd _hi hi' Tl e Dt ed lt)
theorem ob_opFst {l : Addr} {v : Value} {ts : Toks} {d : Dat} (Tl : TokList ns l ts) (e : ts = itToks 0) (Dt : DatIn ns v d) (ed : d = itTree 0) (hd : Nat.ble (4 + 1) sc.D = true) (hu : Nat.ble (40 + 3) sc.U = true)
    (ret : ∀ t ledN tk', OpsAt ns ledN [.ref t] [0] → go X 300 (.ret (.v (.ref t))) K ml ledN tk') : Ob X (.call (.ref 516) [.ref l, v]) K ml ns tk :=
  ob_opIt (OpsAt.nil ns) (fun _ h => h) (fun h => h) rfl (by decide) Tl e Dt ed hd hu ret
end
section
variable {G : Gl} {news : News'}
theorem mem_app {a b : News'} (s : ∀ x ∈ a, x ∈ b) {x : Addr × Obj} (h : x ∈ a) : x ∈ b := s x h
theorem sub_app {a b : News'} {vs : List Value} {is : List Nat} (S : OpsAt a b vs is) {x : Addr × Obj} (h : x ∈ a) : x ∈ b := S.sub x h
theorem kw_R46_1 : True := by
  (k_with "MINE insub" => ((fail_if_success k_extra "past R46"); (first
  | ((with_reducible refine mem_hd ?_); exact rfl)
  | (with_reducible refine sub_app S ?_; walk_at "MINE insub")
  | (with_reducible refine mem_app s9 ?_; walk_at "MINE insub")
  | (with_reducible refine List.mem_cons_of_mem _ ?_; walk_at "MINE insub"))))
  (k_with "MINE insub2" => ((fail_if_success k_extra "past R46"); (first
  | with_reducible exact h8
  | (with_reducible refine mem_app s9 ?_; walk_at "MINE insub2")
  | (with_reducible refine List.mem_cons_of_mem _ ?_; walk_at "MINE insub2"))))
  (k_with "MINE toksare" => ((fail_if_success k_extra "past R46"); (first | exact ToksAre.nil | exact ToksAre.cons (by walk_at "MINE insub") (by walk_at "MINE toksare"))))
  (k_with "MINE tl" => ((fail_if_success k_extra "past R46"); (first
  | with_reducible exact T9
  | with_reducible exact l9T
  | with_reducible exact TokList.mono T9 (fun y8 h8 => by walk_at "MINE insub2")
  | with_reducible exact TokList.mono l9T (fun y8 h8 => by walk_at "MINE insub2")
  | exact TokList.of (by walk_at "MINE insub") (by walk_at "MINE toksare"))))
  trivial
theorem nd_use {P Q : Prop} (h : P → Q) (p : P) : Q := h p
theorem kw_R46_2 : True := by
  (k_with "MINE dtree" => ((fail_if_success k_extra "past R46"); (first
  | exact DatIn.int _ _
  | exact DatIn.str _ _
  | exact DatIn.none
  | exact DatIn.bytes _ _
  | exact DatIn.bool _
  | exact DatIn.tuple (by walk_at "MINE insub") (by walk_at "MINE dtrees"))))
  (k_with "MINE dtrees" => ((fail_if_success k_extra "past R46"); (first | exact DatAll.nil | exact DatAll.cons (by walk_at "MINE dtree") (by walk_at "MINE dtrees"))))
  (k_with "MINE nod" => ((fail_if_success k_extra "past R46"); (first
  | with_reducible exact hn8
  | (with_reducible refine nd_use nd9 ?_; walk_at "MINE nod")
  | exact nodup_above (by first | with_reducible assumption | exact AllLt.all (by assumption)) (by walk_at "MINE nod"))))
  (k_with "V more" => ((fail_if_success k_extra "past R46"); (first
  | ((with_reducible show Ob _ (Tk.call (Value.ref 516) _) _ _ _ _); (first
    | (refine' ob_opIt S ?k9 ?n9 rfl ?q9 ?t9 ?u9 ?v9 ?w9 rfl rfl ?_; (case k9 => exact fun y8 h8 => by walk_at "MINE insub2"); (case n9 => exact fun hn8 => by walk_at "MINE nod"); (case q9 => decide); (case t9 => walk_at "MINE tl"); (case u9 => first | rfl | kernel_rfl!); (case v9 => walk_at "MINE dtree"); (case w9 => first | rfl | kernel_rfl!))
    | (refine' ob_opFst ?t9 ?u9 ?v9 ?w9 rfl rfl ?_; (case t9 => walk_at "MINE tl"); (case u9 => first | rfl | kernel_rfl!); (case v9 => walk_at "MINE dtree"); (case w9 => first | rfl | kernel_rfl!))); intro t9 ledN tk S9; (try clear S); (try clear T9); (try clear l9T); (try clear s9); (try clear nd9); (have S := S9); clear S9)
  | ((with_reducible show Ob _ (Tk.bin Operator.Add (Value.ref _) (Value.ref _)) _ _ _ _); (refine' ob_addToks (fun _ h => h) ?k4 ?k5 ?k6 ?_; (case k4 => walk_at "MINE tl"); (case k5 => walk_at "MINE tl"); (case k6 => first | decide | (simp only [List.length_append, List.length_cons, List.length_nil]; omega)); intro D9 its9 k9 l9 l9T e9))
  | ((with_reducible show Ob _ (Tk.call (Value.ref 504) _) _ _ _ _); (first
    | (refine' ob_newtl (lw_K _ _ ?c9) rfl rfl ?_; (case c9 => exact rfl))
    | (refine' ob_newtl (lw_KRF _ _ ?c9) rfl rfl ?_; (case c9 => exact rfl))
    | (refine' ob_newtl (lw_ALL _ _ ?c9) rfl rfl ?_; (case c9 => exact rfl))
    | (refine' ob_newtl (lw_ALLZ _ _ ?c9) rfl rfl ?_; (case c9 => exact rfl))
    | (refine' ob_newtl (lw_QUOTES _ _ ?c9) rfl rfl ?_; (case c9 => exact rfl))
    | (refine' ob_newtl (lw_SPACE _ _ ?c9) rfl rfl ?_; (case c9 => exact rfl))
    | (refine' ob_newtl (lw_HIGH _ _ ?c9) rfl rfl ?_; (case c9 => exact rfl))
    | (refine' ob_newtl (lw_LOW _ _ ?c9) rfl rfl ?_; (case c9 => exact rfl))
    | (refine' ob_newtl (lw_ZERO _ _ ?c9) rfl rfl ?_; (case c9 => exact rfl))); intro l9 n9 tk T9 s9 nd9))))
  trivial
theorem opsAt_new {news led0 led : News'} {vs : List Value} (S : OpsAt led0 led vs [0, 1, 2, 3, 4, 5, 6, 7, 8, 9, 10, 11, 12, 13, 14]) (sub : ∀ x ∈ news, x ∈ led0) (nd : (news.map (·.1)).Nodup → (led0.map (·.1)).Nodup) {l : Addr} {n : Nat} {its : Array Value} (hv : its.toList = vs) (lt : ∀ x ∈ led, x.1 < l) : NewOps news ((l, lstO its n) :: led) (.ref l) := by
  subst hv
  exact ⟨l, its, n, rfl, .head _, S.ops.mono fun x h => .tail _ h, fun x h => .tail _ (S.sub x (sub x h)), fun h => nodup_above lt (S.nd (nd h))⟩
theorem ops_c : Con G 523 [] news 12 100 (fun news' v => NewOps news news' v) := by
  walk_at "V enter"
  walk_at "V steps"
  refine hret _ _ (opsAt_new S (fun y8 h8 => by walk_at "MINE insub2") (fun hn8 => by walk_at "MINE nod") rfl ?_)
  assumption
end
theorem kw_R46_end : True := by
  (k_with "past R46" => skip)
  trivial
end Mine
end
noncomputable section
open PySem PySem.W PyProof.Rows PySem.Calls
set_option Elab.async false
set_option maxRecDepth 100000
set_option maxHeartbeats 4000000
namespace Mine
/-- no table of code -/
noncomputable def Plain (o : Obj) : Prop := ∀ ps : Array Value, o ≠ tabObj ps
theorem plain_lst (its : Array Value) (n : Nat) : Plain (lstO its n) := tab_lst its n
theorem plain_tup (vs : Array Value) (n : Nat) : Plain ({ cls := .type "tuple", data := .seq vs n } : Obj) := tab_tup vs n
/-- what the law's ledger holds all along -/
structure LW (led : News') : Prop where
  nd : (led.map (·.1)).Nodup
  tab : TabOk led
  tR : TabP 525 posR led
  tF : TabP 532 posF led
noncomputable def Kpt (a b : News') : Prop := ∀ x ∈ a, Plain x.2 → x ∈ b
theorem Kpt.refl (a : News') : Kpt a a := fun _ h _ => h
theorem Kpt.trans {a b c : News'} (h : Kpt a b) (k : Kpt b c) : Kpt a c := fun x hx p => k x (h x hx p) p
theorem Kpt.sub {a b : News'} (h : ∀ x ∈ a, x ∈ b) : Kpt a b := fun x hx _ => h x hx
theorem Kpt.subl {a b c : News'} (s : ∀ x ∈ a, x ∈ b) (h : Kpt b c) : Kpt a c := fun x hx p => h x (s x hx) p
theorem plain_off {a : News'} {P : Addr} {ps : Array Value} (nd : (a.map (·.1)).Nodup) (m : (P, tabObj ps) ∈ a) {x : Addr × Obj} (hx : x ∈ a) (p : Plain x.2) : x.1 ≠ P := ne_at (o := x.2) nd hx m (p ps)
theorem LW.right {a b : News'} (W : LW a) (h : LBk 525 posR a b) : LW b ∧ Kpt a b := by
  obtain ⟨nd, ⟨p1, t1, _⟩, ⟨p2, t2, _⟩, tF⟩ := W
  refine ⟨⟨h.nodup, h.tab, h.tabP, tF.mono fun ps m => h.keep _ m ?_ ?_⟩, fun x hx p => h.keep x hx (plain_off nd t1 hx p) (plain_off nd t2 hx p)⟩
  · show (532 : Addr) ≠ 232; decide
  · show (532 : Addr) ≠ 525; decide
theorem LW.refused {a b : News'} (W : LW a) (h : LBk 532 posF a b) : LW b ∧ Kpt a b := by
  obtain ⟨nd, ⟨p1, t1, _⟩, tR, ⟨p2, t2, _⟩⟩ := W
  refine ⟨⟨h.nodup, h.tab, tR.mono fun ps m => h.keep _ m ?_ ?_, h.tabP⟩, fun x hx p => h.keep x hx (plain_off nd t1 hx p) (plain_off nd t2 hx p)⟩
  · show (525 : Addr) ≠ 232; decide
  · show (525 : Addr) ≠ 532; decide
theorem LW.cons {a : News'} {x : Addr × Obj} (W : LW a) (l : ∀ p ∈ a, p.1 < x.1) : LW (x :: a) :=
  ⟨nodup_above l W.nd, by
    obtain ⟨ps, m, h⟩ := W.tab
    exact ⟨ps, .tail _ m, h⟩, W.tR.mono fun _ m => .tail _ m, W.tF.mono fun _ m => .tail _ m⟩
theorem LW.sub {a b : News'} (W : LW a) (s : ∀ x ∈ a, x ∈ b) (nd : (b.map (·.1)).Nodup) : LW b :=
  ⟨nd, by
    obtain ⟨ps, m, h⟩ := W.tab
    exact ⟨ps, s _ m, h⟩, W.tR.mono fun _ m => s _ m, W.tF.mono fun _ m => s _ m⟩
/-- lists and tuples stay -/
noncomputable def LT (o : Obj) : Prop := (∃ its n, o = lstO its n) ∨ ∃ vs n, o = ({ cls := .type "tuple", data := .seq vs n } : Obj)
theorem LT.lst (its : Array Value) (n : Nat) : LT (lstO its n) := .inl ⟨its, n, rfl⟩
theorem LT.tup (vs : Array Value) (n : Nat) : LT ({ cls := .type "tuple", data := .seq vs n } : Obj) := .inr ⟨vs, n, rfl⟩
theorem LT.plain {o : Obj} (h : LT o) : Plain o := by
  rcases h with ⟨its, n, rfl⟩ | ⟨vs, n, rfl⟩
  · exact plain_lst _ _
  · exact plain_tup _ _
noncomputable def KLT (a b : News') : Prop := ∀ x ∈ a, LT x.2 → x ∈ b
theorem Kpt.klt {a b : News'} (K : Kpt a b) : KLT a b := fun x hx h => K x hx h.plain
theorem KLT.refl (a : News') : KLT a a := fun _ h _ => h
theorem KLT.trans {a b c : News'} (h : KLT a b) (k : KLT b c) : KLT a c := fun x hx p => k x (h x hx p) p
theorem KLT.of {a b : News'} (h : ∀ x ∈ a, x ∈ b) : KLT a b := fun x hx _ => h x hx
theorem TokList.klt {a b : News'} {l : Addr} {ts : Toks} (K : KLT a b) (h : TokList a l ts) : TokList b l ts := by
  obtain ⟨its, k, h1, h2, h3⟩ := h.ex
  refine ⟨its, k, K _ h1 (.lst _ _), h2, fun i k' w e => ?_⟩
  obtain ⟨t, kt, wt, n, q1, q2⟩ := h3 i k' w e
  exact ⟨t, kt, wt, n, q1, K _ q2 (.tup _ _)⟩
theorem OpsAll.klt {a b : News'} (K : KLT a b) : ∀ {vs : List Value} {is : List Nat}, OpsAll a vs is → OpsAll b vs is
  | _, _, .nil => .nil
  | _, _, .cons (i := i) h1 h2 h3 h4 h => .cons (K _ h1 (.tup _ _)) (h2.klt K) (datMoved (fun _ _ _ m => K _ m (.tup _ _)) h3 (it_noL i h4)) h4 (h.klt K)
theorem OpsAll.at {a : News'} : ∀ {vs : List Value} {is : List Nat}, OpsAll a vs is → ∀ {i : Nat} {v : Value}, vs[i]? = some v → ∃ j, OpsAll a [v] [j]
  | _, _, .nil, i, v, e => by simp at e
  | _, _, .cons h1 h2 h3 h4 h, 0, v, e => by
    obtain rfl : _ = v := by simpa using e
    exact ⟨_, .cons h1 h2 h3 h4 .nil⟩
  | _, _, .cons h1 h2 h3 h4 h, i + 1, v, e => h.at (by simpa using e)
theorem OpsAll.append {a : News'} : ∀ {vs us : List Value} {is js : List Nat}, OpsAll a vs is → OpsAll a us js → OpsAll a (vs ++ us) (is ++ js)
  | _, _, _, _, .nil, k => k
  | _, _, _, _, .cons h1 h2 h3 h4 h, k => .cons h1 h2 h3 h4 (h.append k)
theorem OpsAll.drop {a : News'} : ∀ {vs : List Value} {is : List Nat} (n : Nat), OpsAll a vs is → OpsAll a (vs.drop n) (is.drop n)
  | _, _, 0, h => h
  | _, _, n + 1, .nil => .nil
  | _, _, n + 1, .cons _ _ _ _ h => h.drop n
theorem OpsAll.take {a : News'} : ∀ {vs : List Value} {is : List Nat} (n : Nat), OpsAll a vs is → OpsAll a (vs.take n) (is.take n)
  | _, _, 0, h => by rw [List.take_zero, List.take_zero]; exact .nil
  | _, _, n + 1, .nil => .nil
  | _, _, n + 1, .cons h1 h2 h3 h4 h => .cons h1 h2 h3 h4 (h.take n)
theorem OpsAll.lt {a : News'} : ∀ {vs : List Value} {is : List Nat}, OpsAll a vs is → ∀ i ∈ is, i < 15
  | _, _, .nil, i, h => nomatch h
  | _, _, .cons _ _ _ h4 h, i, m => by
    rcases List.mem_cons.mp m with rfl | m
    · exact h4
    · exact h.lt i m
noncomputable abbrev wERROR : Str := ⟨⟨[69, 82, 82, 79, 82]⟩⟩
/-- what stands behind -/
noncomputable def behT : Nat → Toks
  | 0 => [(sSign, sDot)]
  | 1 => [(sWord, ⟨⟨[69, 76, 83, 69]⟩⟩)]
  | 2 => [(sWord, wDISPLAY), (sWord, wK)]
  | 3 => [(sWord, ⟨⟨[69, 78, 68, 45, 73, 70]⟩⟩)]
  | 4 => [(sWord, wWITH), (sWord, ⟨⟨[84, 69, 83, 84]⟩⟩)]
  | 5 => [(sWord, wWITH)]
  | 6 => [(sSign, sMinus), (sWord, wK)]
  | 8 => [(sWord, wK)]
  | _ => []
noncomputable def endT : Nat → Toks
  | 0 => []
  | 1 => [(sWord, wNO), (sWord, wADVANCING)]
  | _ => [(sWord, wWITH), (sWord, wNO), (sWord, wADVANCING)]
noncomputable def endX : Nat → Str
  | 0 => ⟨⟨[]⟩⟩
  | 1 => ⟨⟨[78, 79, 32, 65, 68, 86, 65, 78, 67, 73, 78, 71]⟩⟩
  | _ => ⟨⟨[87, 73, 84, 72, 32, 78, 79, 32, 65, 68, 86, 65, 78, 67, 73, 78, 71]⟩⟩
noncomputable def endB : Nat → Bool
  | 0 => false
  | _ => true
section
variable {A X : Toks}
theorem at_app (A X : Toks) (i : Nat) : (A ++ X)[A.length + i]? = X[i]? := by rw [List.getElem?_append_right (by omega), Nat.add_sub_cancel_left]
theorem at_app0 (A X : Toks) : (A ++ X)[A.length]? = X[0]? := at_app A X 0
theorem isKW_app (A X : Toks) (i : Nat) (k x : Str) : isKW (A ++ X) (A.length + i) k x = isKW X i k x := by simp only [isKW, at_app]
theorem isKW_app0 (A X : Toks) (k x : Str) : isKW (A ++ X) A.length k x = isKW X 0 k x := isKW_app A X 0 k x
theorem isK_app (A X : Toks) (i : Nat) (k : Str) : isK (A ++ X) (A.length + i) k = isK X i k := by simp only [isK, at_app]
theorem isK_app0 (A X : Toks) (k : Str) : isK (A ++ X) A.length k = isK X 0 k := isK_app A X 0 k
theorem isNum_app (A X : Toks) : isNum (A ++ X) A.length = isNum X 0 := by simp only [isNum, isKW_app0, isK_app, isK_app0, Nat.zero_add]
theorem isName_app (P : Params) (A X : Toks) : isName P (A ++ X) A.length = isName P X 0 := by simp only [isName, at_app0]
theorem beginsB_app (P : Params) (A X : Toks) : beginsB P (A ++ X) A.length = beginsB P X 0 := by simp only [beginsB, at_app0, isNum_app, isName_app]
theorem nextOk_app (h : NextOk X 0) : NextOk (A ++ X) A.length := ⟨by rw [isKW_app0]; exact h.1, by rw [isKW_app0]; exact h.2, by rw [isKW_app0]; exact h.3⟩
theorem endIs_app {b : Bool} {n : Nat} (h : EndIs X 0 b n) : EndIs (A ++ X) A.length b n := by
  cases h with
  | a h1 h2 => exact .a (by rw [isKW_app0]; exact h1) (by rw [isKW_app0]; exact h2)
  | b h1 h2 h3 => exact .b (by rw [isKW_app0]; exact h1) (by rw [isKW_app]; exact h2) (by rw [isKW_app0]; exact h3)
  | c h1 h2 h3 => exact .c (by rw [isKW_app0]; exact h1) (by rw [isKW_app0]; exact h2) (by rw [isKW_app]; exact h3)
  | d h1 h2 h3 h4 => exact .d (by rw [at_app0]; exact h1) (by rw [isKW_app0]; exact h2) (by rw [isKW_app]; exact h3) (by rw [isKW_app]; exact h4)
end
structure Row (P : Params) (X : Toks) (b : Bool) (n : Nat) : Prop where
  nx : NextOk X 0
  bg : beginsB P X 0 = false
  en : EndIs X 0 b n
theorem cases8 {Q : Nat → Prop} (h0 : Q 0) (h1 : Q 1) (h2 : Q 2) (h3 : Q 3) (h4 : Q 4) (h5 : Q 5) (h6 : Q 6) (h7 : Q 7) : ∀ i < 8, Q i := by
  intro i hi
  match i, hi with
  | 0, _ => exact h0
  | 1, _ => exact h1
  | 2, _ => exact h2
  | 3, _ => exact h3
  | 4, _ => exact h4
  | 5, _ => exact h5
  | 6, _ => exact h6
  | 7, _ => exact h7
  | n + 8, h => exact absurd h (by omega)
theorem bg_word {P : Params} {X : Toks} {x : Str} (e : X[0]? = some (sWord, x)) (r : resv P x = true) (f : figIn x = false) : beginsB P X 0 = false := by
  have h1 : isNum X 0 = false := by
    unfold isNum
    rw [isKW_of (k' := sSign) (w' := sMinus) (b := false) e (by rw [show (sWord == sSign) = false by decide +kernel, Bool.false_and]), isKW_of (k' := sSign) (w' := sPlus) (b := false) e (by rw [show (sWord == sSign) = false by decide +kernel, Bool.false_and]), Bool.or_false, if_neg (by decide)]
    exact isK_of e (by decide +kernel)
  have h2 : isName P X 0 = false := by simp only [isName, e, r, Bool.not_true, Bool.and_false]
  simp only [beginsB, e, h1, h2, f, Bool.and_false, Bool.or_false]
  decide +kernel
theorem bg_sign {P : Params} {X : Toks} {x : Str} (e : X[0]? = some (sSign, x)) (n : isNum X 0 = false) : beginsB P X 0 = false := by
  have h2 : isName P X 0 = false := by simp only [isName, e, show (sSign == sWord) = false by decide +kernel, Bool.false_and]
  simp only [beginsB, e, n, h2, show (sSign == sWord) = false by decide +kernel, Bool.false_and, Bool.or_false]
  decide +kernel
theorem nx_word {X : Toks} {k x : Str} (e : X[0]? = some (k, x)) (h : ((k == sWord && x == wOF) || (k == sWord && x == wIN) || (k == sSign && x == sLpar)) = false) : NextOk X 0 := next_of e h
theorem row_end (P : Params) : ∀ e < 3, ∀ j < 8, Row P (endT e ++ behT j) (endB e) (endT e).length := by
  intro e he
  match e, he with
  | 0, _ =>
    refine cases8 ?_ ?_ ?_ ?_ ?_ ?_ ?_ ?_
    · exact ⟨nx_word (k := sSign) (x := sDot) rfl (by decide +kernel), bg_sign (x := sDot) rfl (by decide +kernel), .a (by decide +kernel) (by decide +kernel)⟩
    · exact ⟨nx_word (k := sWord) (x := ⟨⟨[69, 76, 83, 69]⟩⟩) rfl (by decide +kernel), bg_word (x := ⟨⟨[69, 76, 83, 69]⟩⟩) rfl (resv_ELSE P) (by decide +kernel), .a (by decide +kernel) (by decide +kernel)⟩
    · exact ⟨nx_word (k := sWord) (x := wDISPLAY) rfl (by decide +kernel), bg_word (x := wDISPLAY) rfl (resv_DISPLAY P) (by decide +kernel), .a (by decide +kernel) (by decide +kernel)⟩
    · exact ⟨nx_word (k := sWord) (x := ⟨⟨[69, 78, 68, 45, 73, 70]⟩⟩) rfl (by decide +kernel), bg_word (x := ⟨⟨[69, 78, 68, 45, 73, 70]⟩⟩) rfl (resv_ENDIF P) (by decide +kernel), .a (by decide +kernel) (by decide +kernel)⟩
    · exact ⟨nx_word (k := sWord) (x := wWITH) rfl (by decide +kernel), bg_word (x := wWITH) rfl (resv_WITH P) (by decide +kernel), .b (by decide +kernel) (by decide +kernel) (by decide +kernel)⟩
    · exact ⟨nx_word (k := sWord) (x := wWITH) rfl (by decide +kernel), bg_word (x := wWITH) rfl (resv_WITH P) (by decide +kernel), .b (by decide +kernel) (by decide +kernel) (by decide +kernel)⟩
    · exact ⟨nx_word (k := sSign) (x := sMinus) rfl (by decide +kernel), bg_sign (x := sMinus) rfl (by decide +kernel), .a (by decide +kernel) (by decide +kernel)⟩
    · exact ⟨next_none rfl, rfl, .a (by decide +kernel) (by decide +kernel)⟩
  | 1, _ => exact fun j _ => ⟨nx_word (k := sWord) (x := wNO) rfl (by decide +kernel), bg_word (x := wNO) rfl (resv_NO P) (by decide +kernel), .c (isKW_of (k := sWord) (w := wNO) rfl (by decide +kernel)) (isKW_of (k := sWord) (w := wNO) rfl (by decide +kernel)) (isKW_of (k := sWord) (w := wADVANCING) rfl (by decide +kernel))⟩
  | 2, _ => exact fun j _ => ⟨nx_word (k := sWord) (x := wWITH) rfl (by decide +kernel), bg_word (x := wWITH) rfl (resv_WITH P) (by decide +kernel), .d rfl (isKW_of (k := sWord) (w := wWITH) rfl (by decide +kernel)) (isKW_of (k := sWord) (w := wNO) rfl (by decide +kernel)) (isKW_of (k := sWord) (w := wADVANCING) rfl (by decide +kernel))⟩
  | n + 3, h => exact absurd h (by omega)
theorem row_NAK (P : Params) : Row P (endT 1 ++ behT 8) true 2 := ⟨nx_word (k := sWord) (x := wNO) rfl (by decide +kernel), bg_word (x := wNO) rfl (resv_NO P) (by decide +kernel), .c (isKW_of (k := sWord) (w := wNO) rfl (by decide +kernel)) (isKW_of (k := sWord) (w := wNO) rfl (by decide +kernel)) (isKW_of (k := sWord) (w := wADVANCING) rfl (by decide +kernel))⟩
theorem item_len : ∀ i < 15, (itToks i).length ≤ 6 := cases15 (by decide) (by decide) (by decide) (by decide) (by decide) (by decide) (by decide) (by decide) (by decide) (by decide) (by decide) (by decide) (by decide) (by decide) (by decide)
theorem flat_len : ∀ (is : List Nat), (∀ i ∈ is, i < 15) → (flat is).length ≤ 6 * is.length
  | [], _ => Nat.zero_le _
  | i :: is, h => by
    have h1 := item_len i (h i (.head _))
    have h2 := flat_len is fun j hj => h j (.tail _ hj)
    rw [show flat (i :: is) = itToks i ++ flat is from rfl, List.length_append, List.length_cons]
    omega
theorem small_app {a b : Toks} (h : Small a) (k : Small b) : Small (a ++ b) := fun x hx => by
  rcases List.mem_append.mp hx with hx | hx
  · exact h x hx
  · exact k x hx
theorem small_item : ∀ i < 15, Small (itToks i) := cases15 (by decide) (by decide) (by decide) (by decide) (by decide) (by decide) (by decide) (by decide) (by decide) (by decide) (by decide) (by decide) (by decide) (by decide) (by decide)
theorem small_flat : ∀ (is : List Nat), (∀ i ∈ is, i < 15) → Small (flat is)
  | [], _ => fun x h => nomatch h
  | i :: is, h => small_app (small_item i (h i (.head _))) (small_flat is fun j hj => h j (.tail _ hj))
theorem small_beh : ∀ j < 9, Small (behT j) := fun j hj => match j, hj with
  | 0, _ => by decide
  | 1, _ => by decide
  | 2, _ => by decide
  | 3, _ => by decide
  | 4, _ => by decide
  | 5, _ => by decide
  | 6, _ => by decide
  | 7, _ => by decide
  | 8, _ => by decide
  | n + 9, h => absurd h (by omega)
theorem len_beh : ∀ j < 9, (behT j).length ≤ 8 := fun j hj => match j, hj with
  | 0, _ => by decide
  | 1, _ => by decide
  | 2, _ => by decide
  | 3, _ => by decide
  | 4, _ => by decide
  | 5, _ => by decide
  | 6, _ => by decide
  | 7, _ => by decide
  | 8, _ => by decide
  | n + 9, h => absurd h (by omega)
theorem small_end : ∀ e < 3, Small (endT e) := fun j hj => match j, hj with
  | 0, _ => by decide
  | 1, _ => by decide
  | 2, _ => by decide
  | n + 3, h => absurd h (by omega)
theorem len_end : ∀ e < 3, (endT e).length ≤ 8 := fun j hj => match j, hj with
  | 0, _ => by decide
  | 1, _ => by decide
  | 2, _ => by decide
  | n + 3, h => absurd h (by omega)
theorem endB_x : ∀ e < 3, (endX e != sEmpty) = endB e := fun j hj => match j, hj with
  | 0, _ => by decide +kernel
  | 1, _ => by decide +kernel
  | 2, _ => by decide +kernel
  | n + 3, h => absurd h (by omega)
section
variable {G : Gl} {news : News'}
theorem words_end : ∀ e < 3, ∀ (led : News') (t : Tok), Con G 504 [.str (endX e) t] led 4 40 (fun news' v => NewTL led (endT e) news' v) := fun j hj => match j, hj with
  | 0, _ => fun led t => lw_E _ t rfl
  | 1, _ => fun led t => lw_NA _ t rfl
  | 2, _ => fun led t => lw_WNA _ t rfl
  | n + 3, h => absurd h (by omega)
theorem Con.post {G : Gl} {f : Addr} {vs : List Value} {news : News'} {D U : Nat} {p p' : News' → Value → Prop} (h : Con G f vs news D U p) (i : ∀ n v, p n v → p' n v) : Con G f vs news D U p' := by
  unfold Con at h ⊢
  intros
  apply h <;> first | assumption | skip
  intros
  rename_i k _ _ _ _ _ _ _
  apply k <;> first | assumption | exact i _ _ (by assumption)
theorem right_any (lo : Addr) (e j : Nat) (he : e < 3) (hj : j < 9) (hr : Row G.w.params (endT e ++ behT j) (endB e) (endT e).length) (t : Tok) (lb : Addr) {ops : Array Value} {no : Nat} {is : List Nat} (hne : is ≠ []) (hmo0 : (lo, lstO ops no) ∈ news) (ho : OpsAll news ops.toList is) (hlen : is.length ≤ 15) (W : LW news) (hbT : TokList news lb (behT j)) :
    Con G 530 [.ref lo, .str (endX e) t, .ref lb] news 60 400 (fun news' v => v = .bool true ∧ LW news' ∧ Kpt news news') := by
  obtain ⟨i₀, js₀, rfl⟩ : ∃ a b, is = a :: b := by
    cases is with
    | nil => exact absurd rfl hne
    | cons a b => exact ⟨a, b, rfl⟩
  have hlt := ho.lt
  have hfl := flat_len _ hlt
  rw [List.length_cons] at hlen hfl
  have e1 : ((sWord, wDISPLAY) :: flat (i₀ :: js₀)).length = 1 + (flat (i₀ :: js₀)).length := by rw [List.length_cons, Nat.add_comm]
  refine (right_c (i₀ := i₀) (js₀ := js₀) lo (endX e) t lb hmo0 ho (by omega) (by rw [e1]; omega) W.nd W.tab W.tR hbT (words_end e he) hlt (endB_x e he) (len_end e he) (len_beh j hj) ?sm ?nx ?bg ?en).post fun n v p => ⟨p.1, W.right p.2⟩
  case sm => exact small_app (small_app (fun x hx => by
    rcases List.mem_cons.mp hx with rfl | hx
    · exact (by decide : (sWord, wDISPLAY).2.length ≤ 64)
    · exact small_flat _ hlt x hx) (small_end e he)) (small_beh j hj)
  case nx => rw [← e1, List.append_assoc]; exact nextOk_app hr.nx
  case bg => rw [← e1, List.append_assoc, beginsB_app]; exact hr.bg
  case en => rw [← e1, List.append_assoc]; exact endIs_app hr.en
theorem right_j (lo : Addr) (e j : Nat) (he : e < 3) (hj : j < 8) (t : Tok) (lb : Addr) {ops : Array Value} {no : Nat} {is : List Nat} (hne : is ≠ []) (hmo0 : (lo, lstO ops no) ∈ news) (ho : OpsAll news ops.toList is) (hlen : is.length ≤ 15) (W : LW news) (hbT : TokList news lb (behT j)) :
    Con G 530 [.ref lo, .str (endX e) t, .ref lb] news 60 400 (fun news' v => v = .bool true ∧ LW news' ∧ Kpt news news') :=
  right_any lo e j he (Nat.lt_succ_of_lt hj) (row_end _ e he j hj) t lb hne hmo0 ho hlen W hbT
theorem right_8 (lo : Addr) (t : Tok) (lb : Addr) {ops : Array Value} {no : Nat} {is : List Nat} (hne : is ≠ []) (hmo0 : (lo, lstO ops no) ∈ news) (ho : OpsAll news ops.toList is) (hlen : is.length ≤ 15) (W : LW news) (hbT : TokList news lb (behT 8)) :
    Con G 530 [.ref lo, .str (endX 1) t, .ref lb] news 60 400 (fun news' v => v = .bool true ∧ LW news' ∧ Kpt news news') :=
  right_any lo 1 8 (by decide) (by decide) (row_NAK _) t lb hne hmo0 ho hlen W hbT
theorem ConR.mono {f : Addr} {vs : List Value} {D U D' U' : Nat} {post : News' → Addr → Prop} (h : ConR G f vs news D U post) (hD : D ≤ D') (hU : U ≤ U') : ConR G f vs news D' U' post := by
  intro dp un gd cn cs a ccd cl outer A₀ base h₀ L m s Q E B F X N T hk hd hu ret
  exact h _ _ _ _ _ _ _ _ _ _ _ _ _ _ _ _ _ B F X N T hk (by omega) (by omega) ret
/-- what is refused -/
noncomputable def refT : Nat → Toks
  | 0 => [(sWord, wDISPLAY), (sSign, sDot)]
  | 1 => [(sWord, wDISPLAY), (sWord, wNO), (sWord, wADVANCING)]
  | 2 => [(sWord, wDISPLAY), (sWord, wK), (sWord, wNO), (sSign, sDot)]
  | _ => [(sWord, wDISPLAY), (sWord, wK), (sWord, wWITH), (sWord, wNO), (sWord, wERROR)]
theorem begins1 {P : Params} {x : Str × Str} {X : Toks} (h : beginsB P X 0 = false) : beginsB P (x :: X) 1 = false := by
  have := beginsB_app P [x] X
  rw [← h, ← this]; rfl
theorem begins2 {P : Params} {x y : Str × Str} {X : Toks} (h : beginsB P X 0 = false) : beginsB P (x :: y :: X) 2 = false := by
  have := beginsB_app P [x, y] X
  rw [← h, ← this]; rfl
theorem hat4 {x : Str × Str} {X : Toks} : At (x :: (sWord, wK) :: X) 1 (itToks 4) := fun j y e => by
  match j, e with
  | 0, e => exact e
  | j + 1, e => exact nomatch e
noncomputable abbrev RefPost (news : News') : News' → Value → Prop := fun news' v => v = .bool true ∧ LW news' ∧ Kpt news news'
theorem ConS.post {f : Addr} {vs : List Value} {D U : Nat} {p p' : News' → Value → Prop} (h : ConS G f vs news D U p) (i : ∀ n v, p n v → p' n v) : ConS G f vs news D U p' := by
  intro dp un gd cn cs a ccd cl A₀ base h₀ L m s Q E B F X N T hk hd hu ret
  exact h _ _ _ _ _ _ _ _ _ _ _ _ _ _ _ _ B F X N T hk hd hu fun r n' h' tk' F' N' p' => ret r n' h' tk' F' N' (i _ _ p')
theorem refused_0 (lt : Addr) (it : Tok) (W : LW news) (hT : TokList news lt (refT 0)) : ConS G 537 [.ref lt, .int 1 it] news 80 420 (RefPost news) :=
  (refused_c (pi := 1) lt hT W.nd W.tab W.tF it (by decide) fun f R => (rd_f1 R (by decide) (by decide) f rfl (begins1 (bg_sign (x := sDot) rfl (by decide +kernel)))).mono (by decide) (by decide)).post fun n v p => ⟨p.1, W.refused p.2⟩
theorem refused_1 (lt : Addr) (it : Tok) (W : LW news) (hT : TokList news lt (refT 1)) : ConS G 537 [.ref lt, .int 1 it] news 80 420 (RefPost news) :=
  (refused_c (pi := 1) lt hT W.nd W.tab W.tF it (by decide) fun f R => (rd_f1 R (by decide) (by decide) f rfl (begins1 (bg_word (x := wNO) rfl (resv_NO _) (by decide +kernel)))).mono (by decide) (by decide)).post fun n v p => ⟨p.1, W.refused p.2⟩
theorem refused_2 (lt : Addr) (it : Tok) (W : LW news) (hT : TokList news lt (refT 2)) : ConS G 537 [.ref lt, .int 3 it] news 80 420 (RefPost news) :=
  (refused_c (pi := 3) lt hT W.nd W.tab W.tF it (by decide) fun f R => rd_f2 R (by decide) (by decide) f rfl hat4 (next_of (k := sWord) (x := wNO) rfl (by decide +kernel)) (begins2 (bg_word (x := wNO) rfl (resv_NO _) (by decide +kernel))) (by decide +kernel) (by decide +kernel) (by decide +kernel)).post fun n v p => ⟨p.1, W.refused p.2⟩
theorem refused_3 (lt : Addr) (it : Tok) (W : LW news) (hT : TokList news lt (refT 3)) : ConS G 537 [.ref lt, .int 4 it] news 80 420 (RefPost news) :=
  (refused_c (pi := 4) lt hT W.nd W.tab W.tF it (by decide) fun f R => rd_f3 R (by decide) (by decide) f rfl hat4 (next_of (k := sWord) (x := wWITH) rfl (by decide +kernel)) (begins2 (bg_word (x := wWITH) rfl (resv_WITH _) (by decide +kernel))) (by decide +kernel) (by decide +kernel) (by decide +kernel) (e2 := rfl)).post fun n v p => ⟨p.1, W.refused p.2⟩
end
end Mine
end
noncomputable section
open PySem PySem.W PyProof.Rows PySem.Calls
set_option Elab.async false
set_option maxRecDepth 100000
set_option maxHeartbeats 4000000
namespace Mine
/-- as Con, with a list of the caller's own -/
noncomputable def ConI (G : Gl) (f : Addr) (vs : List Value) (sl : Addr) (its : List Value) (news : News') (D U : Nat) (post : News' → Value → Prop) : Prop :=
  ∀ (dp un : Nat) (gd : Option (List Code)) (cn : Str) (cs : Scope) (a : Addr) (ccd : Value) (cl : List (Str × Addr)) (outer : List Env) (A₀ : Around) (base h₀ : Heap) (L : Addr) (m : Str → Option Value) (s : Shared)
    (Q E : Value → Shared → Prop),
    Below A₀ base outer h₀ → Fr h₀ L s.heap m → (KN G.w.params).In h₀ → News h₀ L s.heap news → Top topProg G.loose G.mean G.mg G.mb h₀ → cs.kind = .function → dp + D < recursionLimit → un + U < cLine → h₀.IsList sl its.toArray →
    (∀ r news' h' tk', Fr h₀ L h' m → News h₀ L h' news' → post news' r → Q r { s with heap := h', toks := tk' }) →
    wpAny (model PySem.Challenge.rw_qd0103_01.prog G.w) (ktrTop dp un gd cn cs L a ccd cl outer) (call (.ref f) vs) Q E s
theorem ints_val {vs : List Value} {ns : List Int} (h : IntsAre vs ns) : ∀ {i : Nat} {v : Value}, vs[i]? = some v → ∃ c u, v = .int c u := by
  induction h with
  | nil => intro i v e; simp at e
  | cons n t z ih =>
    intro i v e
    cases i with
    | zero => exact ⟨n, t, by simpa using e.symm⟩
    | succ i => exact ih (by simpa using e)
theorem ints_snoc {vs : List Value} {ns : List Int} (h : IntsAre vs ns) (n : Int) (t : Tok) : IntsAre (vs ++ [.int n t]) (ns ++ [n]) := by
  induction h with
  | nil => exact .cons n t .nil
  | cons k u _ ih => exact .cons k u ih
theorem cell_pos (c : Int) : 0 ≤ (if c < 0 then -c else c).fmod (10 ^ Int.toNat 40) + 10 ^ Int.toNat 40 * if decide (c < 0) = true then 1 else 0 := by
  have h1 : (0 : Int) < 10 ^ Int.toNat 40 := by decide
  have h2 := Int.fmod_nonneg_of_pos (if c < 0 then -c else c) h1
  by_cases h : c < 0
  · simp only [h, decide_true, if_true] at h2 ⊢; omega
  · simp only [h, decide_false, if_false] at h2 ⊢; rw [if_neg (by decide)]; omega
noncomputable def JPen (base : News') (i : Nat) (ys : List Value) (led : News') : Prop := led = base ∧ ys.length = i ∧ ∃ ns, IntsAre ys ns ∧ ∀ c ∈ ns, 0 ≤ c
section
variable {G : Gl} {news : News'}
theorem kw_R48_1 : True := by
  (k_with "MINE enterI" => ((fail_if_success k_extra "past R48"); ((
  intro dp un gd cn cs a ccd cl outer A₀ base h₀ L m s Q E B F
  k_fill
  intro X N T hk hd hu hsl hret
  refine wpAny_call ?_
  k_dflt (refine' code_def ?k1 ?k2 ?k3 ?k4 ?k5 ?kA ?kF ?kK ?k6 ?k7 ?k8 ?k9 ?kB ?_ ?c2 ?c3 ?c4 ?c5; (case kA => exact rfl); (case kF => exact rfl); (case kK => assumption); (case k1 => k_asm); (case k2 => k_asm); (case k3 => k_asm); (case k4 => k_asm); (case k5 => k_asm); (case k6 => k_is); (case k7 => k_is); (case k8 => ktr_room); (case k9 => first | exact BindsTo.of_eq rfl | exact binds_K (by k_in) rfl (by k_is) rfl rfl rfl); (case c5 => decide); (case kB => exact locs rfl); (case c2 => exact rfl); (case c3 => exact rfl); (case c4 => exact rfl); k_whole; intro g' L' h' FG' F' N' B' X' T'; have hsl' := Fr.lst FG' hsl; (try w_binds F'); (try dsimp only); (try k_fold))))))
  (k_with "CompSrc" => ((fail_if_success k_extra "past R48"); ((k_here; refine Stop.go ?_))))
  (k_with "subscriptTail Name Slice ref ref" => ((fail_if_success k_extra "past R48"); ((k_here; (with_reducible show wpAny _ _ (subscriptTail _ (PySem.Expr.Slice _ _ none _) (Value.ref _) (Value.ref _)) _ _ _); k_dflt (refine' kmk_slice_ints ?F ?N ?l ?p ?q hi (kmk_upto hi (by decide)) (List.length_take ..) ?_ ?s ?t ?z; (case F => k_asm); (case N => k_asm); (case l => exact Fr.lst (by k_asm) hsl'); (case p => kmk_part); (case q => kmk_part); (case s => with_unfolding_all rfl); (case t => kmk_pure); (case z => (rw [List.size_toArray]; exact Nat.le_trans hz (by decide)))); intro D' ws' h' F' N' l1 hI' hC' hL'; (try k_lt l1); (try k_sweep)))))
  trivial
set_option maxHeartbeats 400000 in
theorem pen_c (sl : Addr) {its : List Value} {ns : List Int} (hi : IntsAre its ns) (hz : its.length ≤ 63) :
    ConI G 485 [.ref sl] sl its news 8 80 (fun news' v => ∃ pl n cl, v = .ref pl ∧ (∀ x ∈ news, x ∈ news') ∧ (∀ x ∈ news, x.1 ≠ pl) ∧ ((news.map (·.1)).Nodup → (news'.map (·.1)).Nodup) ∧ ∃ ta ra, PenAt news' pl n cl 0 ta 0 ra) := by
  walk_at "MINE enterI"
  rw [sw_abs, sw_int]
  k_steps
  refine Stop.mk ?_
  rename IntsAre _ _ => hI9
  rename (List.take 30 ns).length = _ => hC9
  rename Fr _ L' _ _ => F9
  rename News _ L' _ _ => N9
  rename (∀ p : Addr × Obj, p ∈ news → p.1 < _) => l9
  have hws : ∀ {ws : List Value}, IntsAre ws (List.take 30 ns) → ws.length ≤ 30 := fun h => by rw [h.length, List.length_take]; exact Nat.min_le_left _ _
  have hz9 := hws hI9
  k_dflt (refine LCg.CompSrc.ledger (by rfl) F9 N9 (.head _) (by rw [List.size_toArray]; exact Nat.le_trans hz9 (by decide)) ?_)
  intro g9
  refine comp_ind (J := JPen _) ?zero ?step ⟨rfl, rfl, [], .nil, fun _ h => nomatch h⟩
  case zero =>
    rintro ys led ⟨rfl, hl, ms, hms, h0⟩
    rw [List.size_toArray] at hl
    clear F9 N9
    refine LCg.CompRest.zero ?_
    k_steps
    rename (_ ∧ LCg.Off1 _ news) => o9
    rename (_ ∧ _ ∧ AllLt _ news) => a9
    obtain ⟨a1, a2, a3⟩ := a9
    refine hret _ _ _ _ (by k_asm) (by k_asm) ⟨_, _, _, rfl, fun x h => .tail _ (.tail _ (.tail _ h)), fun x h => Nat.ne_of_lt (AllLt.all a3 x h), fun hn => ?_, _, _, ⟨.head _, ⟨_, _, ms, .tail _ (.head _), hms, h0, ?_⟩, Nat.ne_of_lt a1, by decide, by decide⟩⟩
    · refine nodup_above (fun x hx => ?_) (nodup_off (l := _ :: news) o9 (nodup_above l9 hn))
      rcases List.mem_cons.mp hx with rfl | hx
      · exact a1
      · rcases List.mem_cons.mp hx with rfl | hx
        · exact a2
        · exact AllLt.all a3 x hx
    · rw [List.size_toArray, hl]; exact hz9
  case step =>
    rintro k i ys led hk9 ⟨rfl, hl, ms, hms, h0⟩ IH
    clear F9 N9
    refine LCg.CompRest.succ ?_
    intro v9 I9 oI9 C9 oC9 D9 m9 h9 tk9 E9 hv9 hC9 hx9 F9 N9 off9 ne9
    obtain ⟨c9, u9, rfl⟩ := ints_val hI9 (by rw [List.getElem?_toArray] at hv9; exact hv9)
    k_steps
    refine IH _ _ ⟨rfl, by rw [List.length_append, hl]; rfl, _, ints_snoc hms _ _, fun c hc => ?_⟩
    rcases List.mem_append.mp hc with hc | hc
    · exact h0 c hc
    · rw [List.mem_singleton.mp hc]; exact cell_pos c9
end
theorem kw_R48_end : True := by
  (k_with "past R48" => skip)
  trivial
end Mine
end
noncomputable section
open PySem PySem.W PyProof.Rows PySem.Calls
set_option Elab.async false
set_option maxRecDepth 100000
set_option maxHeartbeats 4000000
namespace Mine
noncomputable abbrev ops15 : List Nat := [0, 1, 2, 3, 4, 5, 6, 7, 8, 9, 10, 11, 12, 13, 14]
inductive BehAll (led : News') : List Value → List Nat → Prop
  | nil : BehAll led [] []
  | cons {l : Addr} {j : Nat} {vs : List Value} {js : List Nat} : TokList led l (behT j) → j < 8 → BehAll led vs js → BehAll led (.ref l :: vs) (j :: js)
theorem BehAll.klt {a b : News'} (K : KLT a b) : ∀ {vs : List Value} {js : List Nat}, BehAll a vs js → BehAll b vs js
  | _, _, .nil => .nil
  | _, _, .cons h1 h2 h => .cons (h1.klt K) h2 (h.klt K)
theorem BehAll.at {a : News'} : ∀ {vs : List Value} {js : List Nat}, BehAll a vs js → ∀ {i : Nat} {v : Value}, vs[i]? = some v → ∃ l j, v = .ref l ∧ TokList a l (behT j) ∧ j < 8
  | _, _, .nil, i, v, e => by simp at e
  | _, _, .cons h1 h2 h, 0, v, e => by
    obtain rfl : _ = v := by simpa using e
    exact ⟨_, _, rfl, h1, h2⟩
  | _, _, .cons h1 h2 h, i + 1, v, e => h.at (by simpa using e)
theorem BehAll.len {a : News'} : ∀ {vs : List Value} {is : List Nat}, BehAll a vs is → vs.length = is.length
  | _, _, .nil => rfl
  | _, _, .cons _ _ h => by rw [List.length_cons, List.length_cons, h.len]
theorem plain_cell {o : Obj} {v : Option Value} (h : o.data = .cell v) : Plain o := fun ps e => by rw [e] at h; cases h
theorem cell_lst {o : Obj} {v : Option Value} (h : o.data = .cell v) (its : Array Value) (n : Nat) : o ≠ lstO its n := fun e => by rw [e] at h; cases h
theorem cell_LT {o : Obj} {v : Option Value} (h : o.data = .cell v) {o' : Obj} (l : LT o') : o' ≠ o := fun e => by
  subst e
  rcases l with ⟨its, n, e⟩ | ⟨vs, n, e⟩ <;> rw [e] at h <;> cases h
/-- the law's state before the pen -/
structure LS (led : News') (c1 : Addr) (o1 : Obj) (c2 : Addr) (o2 : Obj) (le : Addr) (its : Array Value) (n : Nat) (ls lb : Addr) (bits : Array Value) (bn : Nat) : Prop where
  W : LW led
  hc1 : (c1, o1) ∈ led
  hd1 : o1.data = .cell (some (.ref le))
  hc2 : (c2, o2) ∈ led
  hd2 : o2.data = .cell none
  ev : (le, lstO its n) ∈ led
  ops : OpsAll led its.toList ops15
  st : TokList led ls (behT 0)
  bh : (lb, lstO bits bn) ∈ led
  bhs : BehAll led bits.toList [0, 1, 2, 3, 4, 5, 6, 7]
theorem LS.kpt {a b : News'} {c1 : Addr} {o1 : Obj} {c2 : Addr} {o2 : Obj} {le : Addr} {its : Array Value} {n : Nat} {ls lb : Addr} {bits : Array Value} {bn : Nat} (S : LS a c1 o1 c2 o2 le its n ls lb bits bn) (K : Kpt a b) (W : LW b) : LS b c1 o1 c2 o2 le its n ls lb bits bn :=
  ⟨W, K _ S.hc1 (plain_cell S.hd1), S.hd1, K _ S.hc2 (plain_cell S.hd2), S.hd2, K _ S.ev (plain_lst _ _), S.ops.klt K.klt, S.st.klt K.klt, K _ S.bh (plain_lst _ _), S.bhs.klt K.klt⟩
/-- the law's state behind the pen: B is the ledger before it -/
structure LP (B : News') (pl cl : Addr) (pn : Nat) (c1 : Addr) (o1 : Obj) (c2 : Addr) (o2 : Obj) (le : Addr) (c : Int) (led : News') : Prop where
  W : LW led
  K : KLT B led
  off : ∀ x ∈ B, x.1 ≠ pl
  pen : ∃ t ta r ra, PenAt led pl pn cl t ta r ra ∧ t ≤ c
  hc1 : (c1, o1) ∈ led
  hd1 : o1.data = .cell (some (.ref le))
  hc2 : (c2, o2) ∈ led
  hd2 : o2.data = .cell (some (.ref pl))
theorem PenAt.kpt {a b : News'} {pl cl : Addr} {n : Nat} {t r : Int} {ta ra : Tok} (P : PenAt a pl n cl t ta r ra) (K : Kpt a b) : PenAt b pl n cl t ta r ra := by
  obtain ⟨hp, ⟨vs, k, ns, h1, h2⟩, ne, t0, t1⟩ := P
  exact ⟨K _ hp (plain_lst _ _), ⟨vs, k, ns, K _ h1 (plain_lst _ _), h2⟩, ne, t0, t1⟩
theorem PenAt.set {a : News'} {pl cl : Addr} {n : Nat} {t r : Int} {ta ra : Tok} (P : PenAt a pl n cl t ta r ra) {t' r' : Int} {ta' ra' : Tok} (h0 : 0 ≤ t') (h1 : t' ≤ 200) : PenAt (setAt a pl (lstO #[.ref cl, .int t' ta', .int r' ra'] n)) pl n cl t' ta' r' ra' := by
  obtain ⟨hp, ⟨vs, k, ns, q1, q2⟩, ne, _, _⟩ := P
  exact ⟨mem_setAt_self hp, ⟨vs, k, ns, mem_setAt q1 ne, q2⟩, ne, h0, h1⟩
theorem LW.set {a : News'} {pl : Addr} {o o' : Obj} (W : LW a) (hp : (pl, o) ∈ a) (p : Plain o) : LW (setAt a pl o') := by
  obtain ⟨nd, ⟨p1, t1, h1⟩, ⟨p2, t2, h2⟩, ⟨p3, t3, h3⟩⟩ := W
  exact ⟨by rw [setAt_keys]; exact nd, ⟨p1, mem_setAt t1 (Ne.symm (plain_off nd t1 hp p)), h1⟩, ⟨p2, mem_setAt t2 (Ne.symm (plain_off nd t2 hp p)), h2⟩, ⟨p3, mem_setAt t3 (Ne.symm (plain_off nd t3 hp p)), h3⟩⟩
section
variable {B led : News'} {pl cl : Addr} {pn : Nat} {c1 : Addr} {o1 : Obj} {c2 : Addr} {o2 : Obj} {le : Addr} {c : Int}
theorem LP.kpt (S : LP B pl cl pn c1 o1 c2 o2 le c led) {b : News'} (K : Kpt led b) (W : LW b) : LP B pl cl pn c1 o1 c2 o2 le c b := by
  obtain ⟨t, ta, r, ra, P, ht⟩ := S.pen
  exact ⟨W, S.K.trans K.klt, S.off, ⟨t, ta, r, ra, P.kpt K, ht⟩, K _ S.hc1 (plain_cell S.hd1), S.hd1, K _ S.hc2 (plain_cell S.hd2), S.hd2⟩
theorem LP.cons (S : LP B pl cl pn c1 o1 c2 o2 le c led) {x : Addr × Obj} (l : ∀ p ∈ led, p.1 < x.1) : LP B pl cl pn c1 o1 c2 o2 le c (x :: led) := S.kpt (fun _ h _ => .tail _ h) (S.W.cons l)
theorem LP.set (S : LP B pl cl pn c1 o1 c2 o2 le c led) {t r : Int} {ta ra : Tok} (P : PenAt led pl pn cl t ta r ra) (ht : t ≤ c) (hc : c ≤ 100) {t' r' : Int} {ta' ra' : Tok} (h0 : 0 ≤ t') (h1 : t' ≤ t + 1) :
    LP B pl cl pn c1 o1 c2 o2 le (c + 1) (setAt led pl (lstO #[.ref cl, .int t' ta', .int r' ra'] pn)) := by
  have nd := S.W.nd
  refine ⟨S.W.set P.hp (plain_lst _ _), fun x hx p => mem_setAt (S.K x hx p) (S.off x hx), S.off, ⟨t', ta', r', ra', P.set h0 (by omega), by omega⟩, mem_setAt S.hc1 (ne_at nd S.hc1 P.hp (cell_lst S.hd1 _ _)), S.hd1, mem_setAt S.hc2 (ne_at nd S.hc2 P.hp (cell_lst S.hd2 _ _)), S.hd2⟩
end
section
variable {G : Gl}
variable {B led : News'} {pl cl : Addr} {pn : Nat} {c1 : Addr} {o1 : Obj} {c2 : Addr} {o2 : Obj} {le : Addr} {c : Int}
/-- what a call with the pen leaves of a ledger -/
noncomputable def PenPost (B : News') (pl cl : Addr) (pn : Nat) (c1 : Addr) (o1 : Obj) (c2 : Addr) (o2 : Obj) (le : Addr) (c : Int) (led led' : News') : Prop := LP B pl cl pn c1 o1 c2 o2 le c led' ∧ ∀ x ∈ led, x.1 ≠ pl → x ∈ led'
theorem draw_L (S : LP B pl cl pn c1 o1 c2 o2 le c led) (hc : c ≤ 100) (many : Int) (mt : Tok) (hm0 : 0 < many) (hm1 : many ≤ 16) :
    Con G 492 [.ref pl, .int many mt] led 6 60 (fun news' v => ∃ d u, v = .int d u ∧ 0 ≤ d ∧ d < many ∧ PenPost B pl cl pn c1 o1 c2 o2 le (c + 1) led news') := by
  obtain ⟨t, ta, r, ra, P, ht⟩ := S.pen
  refine (draw_c P S.W.nd many mt hm0 hm1).post ?_
  rintro n v ⟨d, u, t', ta', r', ra', rfl, h0, h1, rfl, h2, h3⟩
  exact ⟨d, u, rfl, h0, h1, S.set P ht hc h2 h3, fun x hx hn => mem_setAt hx hn⟩
theorem pick_L (S : LP B pl cl pn c1 o1 c2 o2 le c led) (hc : c ≤ 100) {sl : Addr} {its : Array Value} {k : Nat} (hl : (sl, lstO its k) ∈ led) (hne : sl ≠ pl) (h0 : 0 < its.size) (h1 : its.size ≤ 16) :
    Con G 499 [.ref pl, .ref sl] led 10 80 (fun news' v => (∃ i : Nat, its[i]? = some v) ∧ PenPost B pl cl pn c1 o1 c2 o2 le (c + 1) led news') := by
  obtain ⟨t, ta, r, ra, P, ht⟩ := S.pen
  refine (pick_c P S.W.nd hl hne h0 h1).post ?_
  rintro n v ⟨t', ta', r', ra', i, rfl, h2, h3, e⟩
  exact ⟨⟨i, e⟩, S.set P ht hc h2 h3, fun x hx hn => mem_setAt hx hn⟩
/-- a pick within a block: the block's own three objects stay ahead -/
theorem pick_B (S : LP B pl cl pn c1 o1 c2 o2 le c led) (hc : c ≤ 100) {I C D : Addr} {oI oC oD : Obj} (off : LCg.Off3 I C D led) (ne : (@Ne Nat I C) ∧ (@Ne Nat I D) ∧ (@Ne Nat C D)) {sl : Addr} {its : Array Value} {k : Nat} (hl : (sl, lstO its k) ∈ led) (hne : sl ≠ pl) (h0 : 0 < its.size) (h1 : its.size ≤ 16) :
    Con G 499 [.ref pl, .ref sl] ((I, oI) :: (C, oC) :: (D, oD) :: led) 10 80 (fun news' v => ∃ led', news' = (I, oI) :: (C, oC) :: (D, oD) :: led' ∧ LCg.Off3 I C D led' ∧ (∃ i : Nat, its[i]? = some v) ∧ PenPost B pl cl pn c1 o1 c2 o2 le (c + 1) led led') := by
  obtain ⟨t, ta, r, ra, P, ht⟩ := S.pen
  obtain ⟨n1, n2, n3⟩ := ne
  have o9 := off.mem
  have e1 : ∀ (a : Addr), (∀ p ∈ led, p.1 ≠ a) → a ∉ led.map (·.1) := fun a h m => by
    obtain ⟨x, hx, e⟩ := List.mem_map.mp m
    exact h x hx e
  have nd : (((I, oI) :: (C, oC) :: (D, oD) :: led).map (·.1)).Nodup := by
    simp only [List.map_cons, List.nodup_cons, List.mem_cons, not_or]
    exact ⟨⟨n1, n2, e1 I fun p hp => (o9 p hp).1⟩, ⟨n3, e1 C fun p hp => (o9 p hp).2.1⟩, e1 D fun p hp => (o9 p hp).2.2, S.W.nd⟩
  have P' : PenAt ((I, oI) :: (C, oC) :: (D, oD) :: led) pl pn cl t ta r ra := P.kpt fun _ h _ => .tail _ (.tail _ (.tail _ h))
  have q := o9 _ P.hp
  refine (pick_c P' nd (.tail _ (.tail _ (.tail _ hl))) hne h0 h1).post ?_
  rintro n v ⟨t', ta', r', ra', i, rfl, h2, h3, e⟩
  refine ⟨setAt led pl (lstO #[.ref cl, .int t' ta', .int r' ra'] pn), ?_, ?_, ⟨i, e⟩, S.set P ht hc h2 h3, fun x hx hn => mem_setAt hx hn⟩
  · rw [setAt_cons (x := (I, oI)) (Ne.symm q.1), setAt_cons (x := (C, oC)) (Ne.symm q.2.1), setAt_cons (x := (D, oD)) (Ne.symm q.2.2)]
  · refine LCg.Off3.of fun p hp => ?_
    have : p.1 ∈ (setAt led pl (lstO #[.ref cl, .int t' ta', .int r' ra'] pn)).map (·.1) := List.mem_map.mpr ⟨p, hp, rfl⟩
    rw [setAt_keys] at this
    obtain ⟨y, hy, ey⟩ := List.mem_map.mp this
    rw [← ey]; exact o9 y hy
theorem right_L (S : LP B pl cl pn c1 o1 c2 o2 le c led) (lo : Addr) (e j : Nat) (he : e < 3) (hj : j < 8) (t : Tok) (lb : Addr) {ops : Array Value} {no : Nat} {is : List Nat} (hne : is ≠ []) (hmo0 : (lo, lstO ops no) ∈ led) (ho : OpsAll B ops.toList is) (hlen : is.length ≤ 15) (hbT : TokList B lb (behT j)) :
    Con G 530 [.ref lo, .str (endX e) t, .ref lb] led 60 400 (fun news' v => v = .bool true ∧ LP B pl cl pn c1 o1 c2 o2 le c news' ∧ Kpt led news') :=
  (right_j lo e j he hj t lb hne hmo0 (ho.klt S.K) hlen S.W (hbT.klt S.K)).post fun _ _ p => ⟨p.1, S.kpt p.2.2 p.2.1, p.2.2⟩
end
theorem conS_use {G : Gl} {f : Addr} {vs : List Value} {news : News'} {D U : Nat} {post : News' → Value → Prop}
    {dp un : Nat} {gd : Option (List Code)} {cn : Str} {cs : Scope} {a : Addr} {ccd : Value} {cl : List (Str × Addr)} {A₀ : Around} {base h₀ : Heap} {L : Addr} {m : Str → Option Value} {s : Shared} {Q E : Value → Shared → Prop}
    (C : ConS G f vs news D U post)
    (B : Below A₀ base [] h₀) (F : Fr h₀ L s.heap m) (X : (KN G.w.params).In h₀) (N : News h₀ L s.heap news) (T : Top topProg G.loose G.mean G.mg G.mb h₀) (hk : cs.kind = .function) (hd : dp + D < recursionLimit) (hu : un + U < cLine)
    (ret : ∀ r news' h' tk', Fr h₀ L h' m → News h₀ L h' news' → post news' r → Q r { s with heap := h', toks := tk' }) :
    wpAny (model PySem.Challenge.rw_qd0103_01.prog G.w) (ktrTop dp un gd cn cs L a ccd cl []) (call (.ref f) vs) Q E s := C _ _ _ _ _ _ _ _ _ _ _ _ _ _ _ _ B F X N T hk hd hu ret
theorem conI_use {G : Gl} {f : Addr} {vs : List Value} {sl : Addr} {its : List Value} {news : News'} {D U : Nat} {post : News' → Value → Prop}
    {dp un : Nat} {gd : Option (List Code)} {cn : Str} {cs : Scope} {a : Addr} {ccd : Value} {cl : List (Str × Addr)} {outer : List Env} {A₀ : Around} {base h₀ : Heap} {L : Addr} {m : Str → Option Value} {s : Shared} {Q E : Value → Shared → Prop}
    (C : ConI G f vs sl its news D U post)
    (B : Below A₀ base outer h₀) (F : Fr h₀ L s.heap m) (X : (KN G.w.params).In h₀) (N : News h₀ L s.heap news) (T : Top topProg G.loose G.mean G.mg G.mb h₀) (hk : cs.kind = .function) (hd : dp + D < recursionLimit) (hu : un + U < cLine) (hsl : h₀.IsList sl its.toArray)
    (ret : ∀ r news' h' tk', Fr h₀ L h' m → News h₀ L h' news' → post news' r → Q r { s with heap := h', toks := tk' }) :
    wpAny (model PySem.Challenge.rw_qd0103_01.prog G.w) (ktrTop dp un gd cn cs L a ccd cl outer) (call (.ref f) vs) Q E s := C _ _ _ _ _ _ _ _ _ _ _ _ _ _ _ _ _ B F X N T hk hd hu hsl ret
end Mine
end
noncomputable section
open PySem PySem.W PyProof.Rows PySem.Calls
set_option Elab.async false
set_option maxRecDepth 100000
set_option maxHeartbeats 4000000
namespace Mine
section
variable {G : Gl} {news : News'}
/-- a new list of pairs of texts, with the law's ledger behind it -/
noncomputable abbrev NewW (news : News') (ts : Toks) (news' : News') (v : Value) : Prop := ∃ l, v = .ref l ∧ TokList news' l ts ∧ (∀ x ∈ news, x ∈ news') ∧ LW news'
theorem words_W (W : LW news) {x : Str} {t : Tok} {ts : Toks} (h : Con G 504 [.str x t] news 4 40 (fun news' v => NewTL news ts news' v)) : Con G 504 [.str x t] news 4 40 (fun news' v => NewW news ts news' v) :=
  h.post fun n v p => by
    obtain ⟨l, e, T, s, _, nd⟩ := p
    exact ⟨l, e, T, s, W.sub s (nd W.nd)⟩
noncomputable abbrev NewO (news news' : News') (v : Value) : Prop := ∃ l its n, v = .ref l ∧ (l, lstO its n) ∈ news' ∧ OpsAll news' its.toList ops15 ∧ (∀ x ∈ news, x ∈ news') ∧ LW news'
theorem ops_W (W : LW news) : Con G 523 [] news 12 100 (fun news' v => NewO news news' v) :=
  (ops_c (news := news)).post fun n v p => by
    obtain ⟨l, its, k, e, m, o, s, nd⟩ := p
    exact ⟨l, its, k, e, m, o, s, W.sub s (nd W.nd)⟩
theorem right_x (lo : Addr) (e j : Nat) (he : e < 3) (hj : j < 8) (x : Str) (t : Tok) (lb : Addr) {ops : Array Value} {no : Nat} {is : List Nat} (hx : x = endX e) (hne : is ≠ []) (hmo0 : (lo, lstO ops no) ∈ news) (ho : OpsAll news ops.toList is) (hlen : is.length ≤ 15) (W : LW news) (hbT : TokList news lb (behT j)) :
    Con G 530 [.ref lo, .str x t, .ref lb] news 60 400 (fun news' v => v = .bool true ∧ LW news' ∧ Kpt news news') := by
  subst hx; exact right_j lo e j he hj t lb hne hmo0 ho hlen W hbT
theorem right_x8 (lo : Addr) (x : Str) (t : Tok) (lb : Addr) {ops : Array Value} {no : Nat} {is : List Nat} (hx : x = endX 1) (hne : is ≠ []) (hmo0 : (lo, lstO ops no) ∈ news) (ho : OpsAll news ops.toList is) (hlen : is.length ≤ 15) (W : LW news) (hbT : TokList news lb (behT 8)) :
    Con G 530 [.ref lo, .str x t, .ref lb] news 60 400 (fun news' v => v = .bool true ∧ LW news' ∧ Kpt news news') := by
  subst hx; exact right_8 lo t lb hne hmo0 ho hlen W hbT
end
section
variable {prog : Program} {w : World} {A : Around} {E : Value → Shared → Prop} {s : Shared} {h₀ : Heap} {L l a : Addr} {m : Str → Option Value} {led : News'} {cn : Str} {cs : Scope} {ccd : Value} {cl : List (Str × Addr)}
/-- a part of the list of the operands -/
theorem slice_ops {value slice : PySem.Expr} {its : Array Value} {n : Nat} {i j : Nat} {vl vu : Value} {Q : Value → Shared → Prop} (F : Fr h₀ L s.heap m) (N : News h₀ L s.heap led) (hm : (l, lstO its n) ∈ led) (ho : OpsAll led its.toList ops15) (pl : IsPart vl (some (i : Int))) (pu : IsPart vu (some (j : Int)))
    (hij : i ≤ 15 ∧ j ≤ 15)
    (h : ∀ D vs h', Fr h₀ L h' m → News h₀ L h' ((D, lstO vs 0) :: led) → (∀ p ∈ led, p.1 < D) → (D, lstO vs 0) ∈ (D, lstO vs 0) :: led → OpsAll led vs.toList ((ops15.drop i).take (j - i)) → Q (.ref D) { s with heap := h' })
    (hs : subscripted slice false (.ref l) (.ref s.heap.objs.size) = operate [.ref s.heap.objs.size, .ref l] (getItem (.ref l) (.ref s.heap.objs.size))) (ht : ∀ r, letTemporaryGo value (.ref l) r = pure ()) :
    wpAny (model prog w) A (subscriptTail value slice (.ref l) (.ref s.heap.objs.size)) Q E { s with heap := s.heap.push { cls := .type "slice", data := .fields #[vl, vu, .none] } } := by
  have hz : its.size = 15 := by rw [← Array.length_toList, ho.len]; rfl
  refine kmk_slice F N (isList_news N hm) pl pu (fun D h' F' N' l1 => h D (slicePick its (some (i : Int)) (some (j : Int)) none) h' F' N' l1 (.head _) ?_) hs ht (by rw [hz]; decide)
  have e : sliceBounds (some (i : Int)) (some (j : Int)) none its.size = ((i : Int), (j : Int), 1) := by
    rw [hz]
    simp only [sliceBounds, Option.getD_none, show (1 : Int) > 0 by decide, if_true, if_neg (show ¬ ((j : Int) < 0) by omega), if_neg (show ¬ ((i : Int) < 0) by omega)]
    congr 1
    · omega
    · congr 1; omega
  rw [kmk_pick_nat its e]
  exact (ho.drop i).take (j - i)
/-- a name of a block's is stored -/
theorem store_cell {M : Model} {x : Str} {v : Value} {c : Addr} {o : Obj} {v₀ : Option Value} {Q : Unit → Shared → Prop} (F : Fr h₀ L s.heap m) (N : News h₀ L s.heap led) (nd : (led.map (·.1)).Nodup) (hc : cl.lookup x = some c) (hm : (c, o) ∈ led) (hd : o.data = .cell v₀)
    (h : ∀ h' o', Fr h₀ L h' m → News h₀ L h' (setAt led c o') → o'.data = .cell (some v) → Q () { s with heap := h' })
    (hk : cs.kind = .function) (hx : (envX cn cs L a ccd cl).kindOf x = some .cell) : wpAny M A (storeName (envX cn cs L a ccd cl) x v) Q E s := by
  obtain ⟨g, U, eg⟩ := updF_at nd hm
  exact storeX_C F N hc U hd (fun h' o' F' N' d => h h' o' F' (eg o' ▸ N') d) hk hx
end
theorem store_cell_W {M : Model} {A : Around} {E : Value → Shared → Prop} {s : Shared} {h₀ : Heap} {L a : Addr} {m : Str → Option Value} {led : News'} {cn : Str} {cs : Scope} {ccd : Value} {cl : List (Str × Addr)} {x : Str} {v : Value} {c : Addr} {o : Obj} {v₀ : Option Value} {Q : Unit → Shared → Prop}
    (F : Fr h₀ L s.heap m) (N : News h₀ L s.heap led) (W : LW led) (hc : cl.lookup x = some c) (hm : (c, o) ∈ led) (hd : o.data = .cell v₀)
    (h : ∀ h' o' led', Fr h₀ L h' m → News h₀ L h' led' → LW led' → KLT led led' → (∀ y ∈ led, y.1 ≠ c → y ∈ led') → (c, o') ∈ led' → o'.data = .cell (some v) → Q () { s with heap := h' })
    (hk : cs.kind = .function) (hx : (envX cn cs L a ccd cl).kindOf x = some .cell) : wpAny M A (storeName (envX cn cs L a ccd cl) x v) Q E s :=
  store_cell F N W.nd hc hm hd (fun h' o' F' N' d => h h' o' _ F' N' (W.set hm (plain_cell hd)) (fun y hy lt => mem_setAt hy (ne_at W.nd hy hm (cell_LT hd lt))) (fun y hy hn => mem_setAt hy hn) (mem_setAt_self hm) d) hk hx
theorem LW.first {L : Addr} {o1 o2 : Obj} (h1 : 232 < L) (h2 : 525 < L) (h3 : 532 < L) : LW [(L + 1 + 1, o2), (L + 1, o1), (232, tabObj #[]), (525, tabObj #[]), (532, tabObj #[])] := by
  refine ⟨?_, ⟨#[], by simp, ?_, .inl rfl⟩, ⟨#[], by simp, ?_, .inl rfl⟩, ⟨#[], by simp, ?_, .inl rfl⟩⟩
  · simp only [List.map_cons, List.map_nil, List.nodup_cons, List.mem_cons, List.not_mem_nil, or_false, not_or, List.nodup_nil, and_true, not_false_eq_true]
    have g := fun {n : Nat} (h : n < L) => (Nat.ne_of_gt (Nat.lt_succ_of_lt (Nat.lt_succ_of_lt h)) : L + 1 + 1 ≠ n)
    have g' := fun {n : Nat} (h : n < L) => (Nat.ne_of_gt (Nat.lt_succ_of_lt h) : L + 1 ≠ n)
    exact ⟨⟨Nat.succ_ne_self _, g h1, g h2, g h3⟩, ⟨g' h1, g' h2, g' h3⟩, by decide, by decide⟩
  all_goals trivial
theorem LW.firstN {h₀ h : Heap} {L' L : Addr} {o1 o2 : Obj} (l : 232 < L ∧ 525 < L ∧ 532 < L) (_N : News h₀ L' h [(L + 1 + 1, o2), (L + 1, o1), (232, tabObj #[]), (525, tabObj #[]), (532, tabObj #[])]) : LW [(L + 1 + 1, o2), (L + 1, o1), (232, tabObj #[]), (525, tabObj #[]), (532, tabObj #[])] := LW.first l.1 l.2.1 l.2.2
theorem cells_mem {h₀ h : Heap} {L' L : Addr} {o1 o2 : Obj} {r : News'} (_N : News h₀ L' h ((L + 1 + 1, o2) :: (L + 1, o1) :: r)) : (L + 1 + 1, o2) ∈ (L + 1 + 1, o2) :: (L + 1, o1) :: r ∧ (L + 1, o1) ∈ (L + 1 + 1, o2) :: (L + 1, o1) :: r := ⟨.head _, .tail _ (.head _)⟩
theorem st_of {h₀ h : Heap} {L' : Addr} {D l T : Addr} {oD : Obj} {n k : Nat} {a b : Tok} {r : News'} (_N : News h₀ L' h ((D, oD) :: (l, lstO #[.ref T] n) :: (T, tupK #[.str sSign a, .str sDot b] k) :: r)) : TokList ((D, oD) :: (l, lstO #[.ref T] n) :: (T, tupK #[.str sSign a, .str sDot b] k) :: r) l (behT 0) :=
  TokList.of (.tail _ (.head _)) (.cons (.tail _ (.tail _ (.head _))) .nil)
theorem KLT.setCell {a : News'} {c : Addr} {o o' : Obj} {v : Option Value} (nd : (a.map (·.1)).Nodup) (m : (c, o) ∈ a) (d : o.data = .cell v) : KLT a (setAt a c o') := fun x hx lt => mem_setAt hx (ne_at nd hx m (cell_LT d lt))
theorem beh_of {h₀ h : Heap} {L' : Addr} {c1 : Addr} {o1 : Obj} {c2 : Addr} {o2 : Obj} {le : Addr} {its : Array Value} {n : Nat} {ls lb a b c d e f g t1 t2 : Addr} {nb ng nf n1 n2 : Nat} {u1 u2 u3 u4 : Tok} {news9 led1 : News'}
    (N : News h₀ L' h ((lb, lstO #[.ref ls, .ref a, .ref b, .ref c, .ref d, .ref e, .ref f, .ref g] nb) :: (g, lstO #[] ng) :: (f, lstO #[.ref t1, .ref t2] nf) :: (t2, tupK #[.str sWord u1, .str wK u2] n2) :: (t1, tupK #[.str sSign u3, .str sMinus u4] n1) :: news9))
    (W : LW ((lb, lstO #[.ref ls, .ref a, .ref b, .ref c, .ref d, .ref e, .ref f, .ref g] nb) :: (g, lstO #[] ng) :: (f, lstO #[.ref t1, .ref t2] nf) :: (t2, tupK #[.str sWord u1, .str wK u2] n2) :: (t1, tupK #[.str sSign u3, .str sMinus u4] n1) :: news9))
    (s : ∀ x ∈ led1, x ∈ news9) (hst : TokList led1 ls (behT 0)) (hle : (le, lstO its n) ∈ led1) (ho : OpsAll led1 its.toList ops15) (m1 : (c1, o1) ∈ led1) (d1 : o1.data = .cell (some (.ref le))) (m2 : (c2, o2) ∈ led1) (d2 : o2.data = .cell none)
    (Ta : TokList news9 a [(sWord, ⟨⟨[69, 76, 83, 69]⟩⟩)]) (Tb : TokList news9 b [(sWord, wDISPLAY), (sWord, wK)]) (Tc : TokList news9 c [(sWord, ⟨⟨[69, 78, 68, 45, 73, 70]⟩⟩)]) (Td : TokList news9 d [(sWord, wWITH), (sWord, ⟨⟨[84, 69, 83, 84]⟩⟩)]) (Te : TokList news9 e [(sWord, wWITH)]) :
    ∃ led2, News h₀ L' h led2 ∧ LS led2 c1 o1 c2 o2 le its n ls lb #[.ref ls, .ref a, .ref b, .ref c, .ref d, .ref e, .ref f, .ref g] nb := by
  have t5 : ∀ x ∈ news9, x ∈ ((lb, lstO #[.ref ls, .ref a, .ref b, .ref c, .ref d, .ref e, .ref f, .ref g] nb) :: (g, lstO #[] ng) :: (f, lstO #[.ref t1, .ref t2] nf) :: (t2, tupK #[.str sWord u1, .str wK u2] n2) :: (t1, tupK #[.str sSign u3, .str sMinus u4] n1) :: news9) := fun x h => .tail _ (.tail _ (.tail _ (.tail _ (.tail _ h))))
  refine ⟨_, N, W, t5 _ (s _ m1), d1, t5 _ (s _ m2), d2, t5 _ (s _ hle), ho.mono fun x h => t5 _ (s _ h), hst.mono fun x h => t5 _ (s _ h), .head _, ?_⟩
  refine .cons (hst.mono fun x h => t5 _ (s _ h)) (by decide) (.cons (Ta.mono t5) (by decide) (.cons (Tb.mono t5) (by decide) (.cons (Tc.mono t5) (by decide) (.cons (Td.mono t5) (by decide) (.cons (Te.mono t5) (by decide) (.cons ?_ (by decide) (.cons ?_ (by decide) .nil)))))))
  · exact TokList.of (.tail _ (.tail _ (.head _))) (.cons (.tail _ (.tail _ (.tail _ (.tail _ (.head _))))) (.cons (.tail _ (.tail _ (.tail _ (.head _)))) .nil))
  · exact TokList.of (.tail _ (.head _)) .nil
noncomputable def off (I : Addr) (l : News') : News' := l.filter fun p => p.1 != I
theorem mem_off {I : Addr} {l : News'} {x : Addr × Obj} (h : x ∈ l) (n : x.1 ≠ I) : x ∈ off I l := List.mem_filter.mpr ⟨h, by simpa using n⟩
theorem off_mem {I : Addr} {l : News'} {x : Addr × Obj} (h : x ∈ off I l) : x ∈ l := (List.mem_filter.mp h).1
theorem off_ne {I : Addr} {l : News'} : ∀ x ∈ off I l, x.1 ≠ I := fun x h => by simpa using (List.mem_filter.mp h).2
theorem LW.off {I : Addr} {a b : News'} (A : LW a) (h : ∀ x ∈ a, x.1 ≠ I) (W : LW b) : LW (off I b) := by
  obtain ⟨_, ⟨q1, r1, _⟩, ⟨q2, r2, _⟩, ⟨q3, r3, _⟩⟩ := A
  obtain ⟨nd, ⟨p1, t1, h1⟩, ⟨p2, t2, h2⟩, ⟨p3, t3, h3⟩⟩ := W
  exact ⟨nd.sublist (List.Sublist.map _ List.filter_sublist), ⟨p1, mem_off t1 (show (232 : Addr) ≠ I from h _ r1), h1⟩, ⟨p2, mem_off t2 (show (525 : Addr) ≠ I from h _ r2), h2⟩, ⟨p3, mem_off t3 (show (532 : Addr) ≠ I from h _ r3), h3⟩⟩
theorem Kpt.off {I : Addr} {a b : News'} (h : ∀ x ∈ a, x.1 ≠ I) (K : Kpt a b) : Kpt a (off I b) := fun x hx p => mem_off (K x hx p) (h x hx)
theorem LW.consNe {a : News'} {I : Addr} {o : Obj} (W : LW a) (h : ∀ x ∈ a, x.1 ≠ I) : LW ((I, o) :: a) :=
  W.sub (fun _ h => .tail _ h) (by
    rw [List.map_cons, List.nodup_cons]
    exact ⟨fun m => by
      obtain ⟨x, hx, e⟩ := List.mem_map.mp m
      exact h x hx e, W.nd⟩)
theorem plain_iter {o : Obj} (h : o.cls = .type "list_iterator") : Plain o := fun ps e => by
  subst e
  cases h
/-- the loop over what stands behind -/
structure BehInv (c1 : Addr) (o1 : Obj) (c2 : Addr) (o2 : Obj) (le : Addr) (its : Array Value) (n : Nat) (ls lb : Addr) (bits : Array Value) (bn : Nat) (sl I : Addr) (vs : List Value) (js : List Nat) (m : Str → Option Value) (led : News') : Prop where
  S : LS led c1 o1 c2 o2 le its n ls lb bits bn
  bh : BehAll led vs js
  offI : ∀ x ∈ led, x.1 ≠ I
  ms : m ⟨⟨[115, 99, 114, 105, 112, 116]⟩⟩ = some (.ref sl)
  mst : m ⟨⟨[115, 116, 111, 112]⟩⟩ = some (.ref ls)
  mb : m ⟨⟨[98, 101, 104, 105, 110, 100, 115]⟩⟩ = some (.ref lb)
theorem beh_ind {G : List Value → (Str → Option Value) → News' → Prop} {Inv : List Value → List Nat → (Str → Option Value) → News' → Prop}
    (step : ∀ vs is m led, Inv vs is m led → (∀ v vs' i is', vs = v :: vs' → is = i :: is' → ∀ m' led', Inv vs' is' m' led' → G vs' m' led') → G vs m led) :
    ∀ vs is m led, vs.length = is.length → Inv vs is m led → G vs m led := by
  intro vs
  induction vs with
  | nil => exact fun is m led _ S => step [] is m led S fun v vs' i is' e => nomatch e
  | cons v vs ih =>
    exact fun is m led hl S => step (v :: vs) is m led S fun v' vs' i is' e e' m' led' S' => by
      cases e
      subst e'
      exact ih is' m' led' (by simpa using hl) S'
theorem beh_start {c1 : Addr} {o1 : Obj} {c2 : Addr} {o2 : Obj} {le : Addr} {its : Array Value} {n : Nat} {ls lb : Addr} {bits : Array Value} {bn : Nat} {sl I : Addr} {m : Str → Option Value} {led : News'} {h₀ h : Heap} {L : Addr} (_F : Fr h₀ L h m)
    (S : LS led c1 o1 c2 o2 le its n ls lb bits bn) (l : ∀ x ∈ led, x.1 < I) (ms : m ⟨⟨[115, 99, 114, 105, 112, 116]⟩⟩ = some (.ref sl)) (mst : m ⟨⟨[115, 116, 111, 112]⟩⟩ = some (.ref ls)) (mb : m ⟨⟨[98, 101, 104, 105, 110, 100, 115]⟩⟩ = some (.ref lb)) :
    BehInv c1 o1 c2 o2 le its n ls lb bits bn sl I bits.toList [0, 1, 2, 3, 4, 5, 6, 7] m led := ⟨S, S.bhs, fun x hx => Nat.ne_of_lt (l x hx), ms, mst, mb⟩
theorem beh_loop {c1 : Addr} {o1 : Obj} {c2 : Addr} {o2 : Obj} {le : Addr} {its : Array Value} {n : Nat} {ls lb : Addr} {bits : Array Value} {bn : Nat} {sl I : Addr} {m : Str → Option Value} {led : News'} {vs : List Value} {js : List Nat}
    (inv : BehInv c1 o1 c2 o2 le its n ls lb bits bn sl I vs js m led) (hl : vs.length = js.length) {G : List Value → (Str → Option Value) → News' → Prop}
    (step : ∀ vs js m led, BehInv c1 o1 c2 o2 le its n ls lb bits bn sl I vs js m led → (∀ v vs' i is', vs = v :: vs' → js = i :: is' → ∀ m' led', BehInv c1 o1 c2 o2 le its n ls lb bits bn sl I vs' is' m' led' → G vs' m' led') → G vs m led) : G vs m led :=
  beh_ind step vs js m led hl inv
theorem beh_end {h₀ : Heap} {L : Addr} {s₁ : Shared} {I : Addr} {m' : Str → Option Value} {h : Heap} {tk : Nat} {oI : Obj} {lp : Addr × Obj} {news9 : News'} {rest : (Str → Option Value) → News' → Prop}
    (F : Fr h₀ L h m') (N : News h₀ L h news9) (hI : (I, oI) ∈ news9) (hl : lp ∈ off I news9) (hr : rest m' (off I news9)) :
    UnrEndW h₀ L s₁ [(I, oI)] (fun m' n' => SubL [lp] n' ∧ rest m' n') { s₁ with heap := h, toks := tk } := by
  refine ⟨h, tk, m', off I news9, rfl, F, fun p hp => N p ?_, fun p hp q hq => ?_, ⟨hl, trivial⟩, hr⟩
  · rcases List.mem_append.mp hp with hp | hp
    · rw [List.mem_singleton.mp hp]; exact hI
    · exact off_mem hp
  · rw [List.mem_singleton.mp hq]; exact off_ne p hp
theorem PenAt.klt {a b : News'} {pl cl : Addr} {n : Nat} {t r : Int} {ta ra : Tok} (P : PenAt a pl n cl t ta r ra) (K : KLT a b) : PenAt b pl n cl t ta r ra := by
  obtain ⟨hp, ⟨vs, k, ns, h1, h2⟩, ne, t0, t1⟩ := P
  exact ⟨K _ hp (.lst _ _), ⟨vs, k, ns, K _ h1 (.lst _ _), h2⟩, ne, t0, t1⟩
section
variable {B led : News'} {pl cl : Addr} {pn : Nat} {c1 : Addr} {o1 : Obj} {c2 : Addr} {o2 : Obj} {le : Addr} {c : Int}
theorem LP.more (S : LP B pl cl pn c1 o1 c2 o2 le c led) {c' : Int} (h : c ≤ c') : LP B pl cl pn c1 o1 c2 o2 le c' led := by
  obtain ⟨t, ta, r, ra, P, ht⟩ := S.pen
  exact ⟨S.W, S.K, S.off, ⟨t, ta, r, ra, P, by omega⟩, S.hc1, S.hd1, S.hc2, S.hd2⟩
theorem LP.consNe (S : LP B pl cl pn c1 o1 c2 o2 le c led) {I : Addr} {o : Obj} (h : ∀ x ∈ led, x.1 ≠ I) : LP B pl cl pn c1 o1 c2 o2 le c ((I, o) :: led) := S.kpt (fun _ h _ => .tail _ h) (S.W.consNe h)
theorem LP.start {news9 led5 : News'} {o0 : Obj} {ta ra : Tok} {its : Array Value} {n : Nat} {ls lb : Addr} {bits : Array Value} {bn : Nat} (S : LS led c1 o1 c2 o0 le its n ls lb bits bn) (s : ∀ x ∈ led, x ∈ news9) (off : ∀ x ∈ led, x.1 ≠ pl) (P : PenAt news9 pl pn cl 0 ta 0 ra)
    (W : LW led5) (K : KLT news9 led5) (k : ∀ y ∈ news9, y.1 ≠ c2 → y ∈ led5) (hne : c1 ≠ c2) (m5 : (c2, o2) ∈ led5) (d5 : o2.data = .cell (some (.ref pl))) : LP led pl cl pn c1 o1 c2 o2 le 0 led5 :=
  ⟨W, (KLT.of s).trans K, off, ⟨0, ta, 0, ra, P.klt K, Int.le_refl 0⟩, k _ (s _ S.hc1) hne, S.hd1, m5, d5⟩
theorem hops_len {a : News'} {its : Array Value} (h : OpsAll a its.toList ops15) : its.size = 15 := by rw [← Array.length_toList, h.len]; rfl
/-- the picks of a block -/
noncomputable def JPick (B : News') (pl cl : Addr) (pn : Nat) (c1 : Addr) (o1 : Obj) (c2 : Addr) (o2 : Obj) (le : Addr) (c : Int) (led0 : News') (i : Nat) (ys : List Value) (led : News') : Prop :=
  LP B pl cl pn c1 o1 c2 o2 le (c + i) led ∧ ys.length = i ∧ (∃ js, OpsAll B ys js) ∧ ∀ x ∈ led0, x.1 ≠ pl → x ∈ led
theorem JPick.next {led0 led' : News'} {i : Nat} {ys : List Value} {y : Value} {its : Array Value} {k : Nat} (J : JPick B pl cl pn c1 o1 c2 o2 le c led0 i ys led) (P : PenPost B pl cl pn c1 o1 c2 o2 le (c + i + 1) led led') (ho : OpsAll B its.toList ops15) (e : its[k]? = some y) :
    JPick B pl cl pn c1 o1 c2 o2 le c led0 (i + 1) (ys ++ [y]) led' := by
  obtain ⟨_, hl, ⟨js, hj⟩, h0⟩ := J
  obtain ⟨j, h⟩ := ho.at (by rw [Array.getElem?_toList]; exact e)
  exact ⟨P.1.more (by omega), by rw [List.length_append, hl]; rfl, ⟨_, hj.append h⟩, fun x hx hn => P.2 x (h0 x hx hn) hn⟩
end
theorem end_of {t1 t2 t3 : Tok} {i : Nat} {v : Value} (h : (#[Value.str ⟨⟨[]⟩⟩ t1, .str ⟨⟨[78, 79, 32, 65, 68, 86, 65, 78, 67, 73, 78, 71]⟩⟩ t2, .str ⟨⟨[87, 73, 84, 72, 32, 78, 79, 32, 65, 68, 86, 65, 78, 67, 73, 78, 71]⟩⟩ t3] : Array Value)[i]? = some v) : ∃ e t, e < 3 ∧ v = .str (endX e) t := by
  match i, h with
  | 0, h => exact ⟨0, t1, by decide, (Option.some.inj h).symm⟩
  | 1, h => exact ⟨1, t2, by decide, (Option.some.inj h).symm⟩
  | 2, h => exact ⟨2, t3, by decide, (Option.some.inj h).symm⟩
  | i + 3, h => simp at h
theorem range_one {d : Int} (h0 : 0 ≤ d) (h1 : d < 8) : Builtin.Range.small 0 d 1 = true ∧ Builtin.Range.rangeSize 0 d 1 = ((d.toNat : Nat) : Int) := by
  have h : d = 0 ∨ d = 1 ∨ d = 2 ∨ d = 3 ∨ d = 4 ∨ d = 5 ∨ d = 6 ∨ d = 7 := by omega
  rcases h with rfl | rfl | rfl | rfl | rfl | rfl | rfl | rfl <;> exact ⟨by decide +kernel, by decide +kernel⟩
theorem jpick_start {B led : News'} {pl cl : Addr} {pn : Nat} {c1 : Addr} {o1 : Obj} {c2 : Addr} {o2 : Obj} {le : Addr} {c : Int} (P : LP B pl cl pn c1 o1 c2 o2 le c led) : JPick B pl cl pn c1 o1 c2 o2 le c led 0 [] led :=
  ⟨P.more (by omega), rfl, ⟨[], .nil⟩, fun _ h _ => h⟩
theorem jpick_zero {B led0 : News'} {pl cl : Addr} {pn : Nat} {c1 : Addr} {o1 : Obj} {c2 : Addr} {o2 : Obj} {le : Addr} {c : Int} {n : Nat} {G : Nat → Nat → List Value → News' → Prop}
    (h : ∀ ys led, LP B pl cl pn c1 o1 c2 o2 le (c + n) led → ys.length = n → (∃ js, OpsAll B ys js) → (∀ x ∈ led0, x.1 ≠ pl → x ∈ led) → G 0 n ys led) : ∀ ys led, JPick B pl cl pn c1 o1 c2 o2 le c led0 n ys led → G 0 n ys led :=
  fun ys led J => h ys led J.1 J.2.1 J.2.2.1 J.2.2.2
theorem jpick_step {B led0 : News'} {pl cl : Addr} {pn : Nat} {c1 : Addr} {o1 : Obj} {c2 : Addr} {o2 : Obj} {le : Addr} {c : Int} {n : Nat} {its : Array Value} {G : Nat → Nat → List Value → News' → Prop} (ho : OpsAll B its.toList ops15)
    (h : ∀ k i ys led, i + (k + 1) = n → LP B pl cl pn c1 o1 c2 o2 le (c + i) led → ys.length = i → (∃ js, OpsAll B ys js) → (∀ x ∈ led0, x.1 ≠ pl → x ∈ led) →
      (∀ (y : Value) (led' : News') (ix : Nat), its[ix]? = some y → PenPost B pl cl pn c1 o1 c2 o2 le (c + i + 1) led led' → G k (i + 1) (ys ++ [y]) led') → G (k + 1) i ys led) :
    ∀ k i ys led, i + (k + 1) = n → JPick B pl cl pn c1 o1 c2 o2 le c led0 i ys led → (∀ y led', JPick B pl cl pn c1 o1 c2 o2 le c led0 (i + 1) (ys ++ [y]) led' → G k (i + 1) (ys ++ [y]) led') → G (k + 1) i ys led :=
  fun k i ys led e J IH => h k i ys led e J.1 J.2.1 J.2.2.1 J.2.2.2 fun y led' ix (ey : its[ix]? = some y) pp => IH y led' (J.next (k := ix) pp ho ey)
theorem LP.pl_ne {B led : News'} {pl cl : Addr} {pn : Nat} {c1 : Addr} {o1 : Obj} {c2 : Addr} {o2 : Obj} {le : Addr} {c : Int} (P : LP B pl cl pn c1 o1 c2 o2 le c led) {D : Addr} (h : ∀ x ∈ led, x.1 ≠ D) : D ≠ pl := by
  obtain ⟨_, _, _, _, q, _⟩ := P.pen
  exact Ne.symm (h _ q.hp)
theorem add_refs {prog : Program} {w : World} {A : Around} {E : Value → Shared → Prop} {s : Shared} {h₀ : Heap} {L : Addr} {m : Str → Option Value} {led : News'} {a b : Addr} {xs ys : List Value} {Q : Value → Shared → Prop}
    (F : Fr h₀ L s.heap m) (N : News h₀ L s.heap led) (h1 : (a, LCg.lst xs) ∈ led) (h2 : (b, LCg.lst ys) ∈ led) (hz : xs.length + ys.length ≤ 64)
    (h : ∀ D k h', Fr h₀ L h' m → News h₀ L h' ((D, lstO (xs ++ ys).toArray k) :: led) → (∀ p ∈ led, p.1 < D) → Q (.ref D) { s with heap := h' }) :
    wpAny (model prog w) A (binaryOp .Add (.ref a) (.ref b)) Q E s := by
  have e1 : s.heap.IsList a xs.toArray := ⟨_, (N _ h1).1, rfl, _, rfl⟩
  have e2 : s.heap.IsList b ys.toArray := ⟨_, (N _ h2).1, rfl, _, rfl⟩
  refine add_lists (hsz := Nat.le_trans hz (by decide)) F N e1 e2 fun h' F' N' => ?_
  exact h _ _ h' F' N' (fun p hp => Heap.lt_size (N p hp).1)
theorem opsAll_ne {a : News'} {vs : List Value} {js : List Nat} (h : OpsAll a vs js) (hv : 0 < vs.length) : js ≠ [] := fun e => by
  subst e
  have := h.len
  rw [this] at hv
  exact absurd hv (by decide)
end Mine
end
noncomputable section
open PySem PySem.W PyProof.Rows PySem.Calls
set_option Elab.async false
namespace Mine
theorem mem_here {h₀ h : Heap} {L : Addr} {x : Addr × Obj} {r : News'} (_N : News h₀ L h (x :: r)) : x ∈ x :: r := .head _
theorem off1_all {D : Addr} {l : News'} : LCg.Off1 D l → ∀ x ∈ l, x.1 ≠ D := by
  induction l with
  | nil => exact fun _ x hx => nomatch hx
  | cons p r ih =>
    intro h x hx
    rcases List.mem_cons.mp hx with e | hx
    · rw [e]; exact h.1
    · exact ih h.2 x hx
theorem LP.pl_gt {B led : News'} {pl cl : Addr} {pn : Nat} {c1 : Addr} {o1 : Obj} {c2 : Addr} {o2 : Obj} {le : Addr} {c : Int} (P : LP B pl cl pn c1 o1 c2 o2 le c led) {D : Addr} (h : ∀ x ∈ led, x.1 < D) : D ≠ pl :=
  LP.pl_ne P fun x hx => Nat.ne_of_lt (h x hx)
theorem LP.consN {h₀ h : Heap} {L : Addr} {x : Addr × Obj} {B led : News'} {pl cl : Addr} {pn : Nat} {c1 : Addr} {o1 : Obj} {c2 : Addr} {o2 : Obj} {le : Addr} {c : Int} (_N : News h₀ L h (x :: led)) (P : LP B pl cl pn c1 o1 c2 o2 le c led) (l : ∀ p ∈ led, p.1 < x.1) : LP B pl cl pn c1 o1 c2 o2 le c (x :: led) := P.cons l
theorem opsAll_two {B : News'} {xs ys : List Value} (h : ∃ js, OpsAll B xs js) (k : ∃ js, OpsAll B ys js) : ∃ js, OpsAll B (xs ++ ys).toArray.toList js := by
  obtain ⟨a, h⟩ := h
  obtain ⟨b, k⟩ := k
  exact ⟨a ++ b, h.append k⟩
theorem LW.grown {h₀ h : Heap} {L : Addr} {led : News'} (W : LW led) (N : News h₀ L h led) : GrownAll [(236, 232), (529, 525), (536, 532)] h := by
  obtain ⟨_, ⟨p1, t1, _⟩, ⟨p2, t2, _⟩, ⟨p3, t3, _⟩⟩ := W
  exact ⟨GrownAt.of N t1, GrownAt.of N t2, GrownAt.of N t3, trivial⟩
theorem post_law (ns : List Int) : PySem.Challenge.rw_qd0103_01.row.claim.post [ofPy (PyData.list (List.map PyData.int ns))] (WData.bool true) [ofPy (PyData.list (List.map PyData.int ns))] = true := by
  wrow_post
theorem right_LX {G : Gl} {B led : News'} {pl cl : Addr} {pn : Nat} {c1 : Addr} {o1 : Obj} {c2 : Addr} {o2 : Obj} {le : Addr} {c : Int}
    (S : LP B pl cl pn c1 o1 c2 o2 le c led) (lo : Addr) (e j : Nat) (he : e < 3) (hj : j < 8) (x : Str) (t : Tok) (lb : Addr) {ops : Array Value} {no : Nat} (hx : x = endX e) (h0 : 0 < ops.size) (h1 : ops.size ≤ 15) (hmo0 : (lo, lstO ops no) ∈ led) (ho : ∃ is, OpsAll B ops.toList is) (hbT : TokList B lb (behT j)) :
    Con G 530 [.ref lo, .str x t, .ref lb] led 60 400 (fun news' v => v = .bool true ∧ LP B pl cl pn c1 o1 c2 o2 le c news' ∧ Kpt led news') := by
  subst hx
  obtain ⟨is, ho⟩ := ho
  exact right_L S lo e j he hj t lb (opsAll_ne ho (by rw [Array.length_toList]; exact h0)) hmo0 ho (by rw [← ho.len, Array.length_toList]; exact h1) hbT
end Mine
end
noncomputable section
open PySem PySem.W PyProof.Rows PySem.Calls
set_option Elab.async false
set_option maxRecDepth 100000
set_option maxHeartbeats 4000000
namespace Mine
open PySem.W.X
theorem tq_0 : Str.ofString "script" = (⟨⟨[115, 99, 114, 105, 112, 116]⟩⟩ : Str) := by kernel_rfl!
theorem tq_1 : Str.ofString "every" = (⟨⟨[101, 118, 101, 114, 121]⟩⟩ : Str) := by kernel_rfl!
theorem tq_2 : Str.ofString "stop" = (⟨⟨[115, 116, 111, 112]⟩⟩ : Str) := by kernel_rfl!
theorem tq_3 : Str.ofString "behinds" = (⟨⟨[98, 101, 104, 105, 110, 100, 115]⟩⟩ : Str) := by kernel_rfl!
theorem tq_4 : Str.ofString "behind" = (⟨⟨[98, 101, 104, 105, 110, 100]⟩⟩ : Str) := by kernel_rfl!
theorem tq_5 : Str.ofString "pen" = (⟨⟨[112, 101, 110]⟩⟩ : Str) := by kernel_rfl!
theorem tq_6 : Str.ofString "one" = (⟨⟨[111, 110, 101]⟩⟩ : Str) := by kernel_rfl!
theorem tq_7 : Str.ofString "other" = (⟨⟨[111, 116, 104, 101, 114]⟩⟩ : Str) := by kernel_rfl!
theorem tq_8 : Str.ofString "end" = (⟨⟨[101, 110, 100]⟩⟩ : Str) := by kernel_rfl!
theorem tq_9 : Str.ofString "turn" = (⟨⟨[116, 117, 114, 110]⟩⟩ : Str) := by kernel_rfl!
theorem tq_10 : Str.ofString "_law_operands" = (⟨⟨[95, 108, 97, 119, 95, 111, 112, 101, 114, 97, 110, 100, 115]⟩⟩ : Str) := by kernel_rfl!
theorem tq_11 : Str.ofString "_law_words" = (⟨⟨[95, 108, 97, 119, 95, 119, 111, 114, 100, 115]⟩⟩ : Str) := by kernel_rfl!
theorem tq_12 : Str.ofString "_law_right" = (⟨⟨[95, 108, 97, 119, 95, 114, 105, 103, 104, 116]⟩⟩ : Str) := by kernel_rfl!
theorem tq_13 : Str.ofString "_law_refused" = (⟨⟨[95, 108, 97, 119, 95, 114, 101, 102, 117, 115, 101, 100]⟩⟩ : Str) := by kernel_rfl!
theorem tq_14 : Str.ofString "_law_pen" = (⟨⟨[95, 108, 97, 119, 95, 112, 101, 110]⟩⟩ : Str) := by kernel_rfl!
theorem tq_15 : Str.ofString "_law_draw" = (⟨⟨[95, 108, 97, 119, 95, 100, 114, 97, 119]⟩⟩ : Str) := by kernel_rfl!
theorem tq_16 : Str.ofString "_law_pick" = (⟨⟨[95, 108, 97, 119, 95, 112, 105, 99, 107]⟩⟩ : Str) := by kernel_rfl!
theorem tq_17 : Str.ofString "sign" = (⟨⟨[115, 105, 103, 110]⟩⟩ : Str) := by kernel_rfl!
theorem tq_18 : Str.ofString "." = (⟨⟨[46]⟩⟩ : Str) := by kernel_rfl!
theorem tq_19 : Str.ofString "-" = (⟨⟨[45]⟩⟩ : Str) := by kernel_rfl!
theorem tq_20 : Str.ofString "word" = (⟨⟨[119, 111, 114, 100]⟩⟩ : Str) := by kernel_rfl!
theorem tq_21 : Str.ofString "K" = (⟨⟨[75]⟩⟩ : Str) := by kernel_rfl!
theorem tq_22 : Str.ofString "ELSE" = (⟨⟨[69, 76, 83, 69]⟩⟩ : Str) := by kernel_rfl!
theorem tq_23 : Str.ofString "DISPLAY K" = (⟨⟨[68, 73, 83, 80, 76, 65, 89, 32, 75]⟩⟩ : Str) := by kernel_rfl!
theorem tq_24 : Str.ofString "END-IF" = (⟨⟨[69, 78, 68, 45, 73, 70]⟩⟩ : Str) := by kernel_rfl!
theorem tq_25 : Str.ofString "WITH TEST" = (⟨⟨[87, 73, 84, 72, 32, 84, 69, 83, 84]⟩⟩ : Str) := by kernel_rfl!
theorem tq_26 : Str.ofString "WITH" = (⟨⟨[87, 73, 84, 72]⟩⟩ : Str) := by kernel_rfl!
theorem tq_27 : Str.ofString "WITH NO ADVANCING" = (⟨⟨[87, 73, 84, 72, 32, 78, 79, 32, 65, 68, 86, 65, 78, 67, 73, 78, 71]⟩⟩ : Str) := by kernel_rfl!
theorem tq_28 : Str.ofString "NO ADVANCING" = (⟨⟨[78, 79, 32, 65, 68, 86, 65, 78, 67, 73, 78, 71]⟩⟩ : Str) := by kernel_rfl!
theorem tq_29 : Str.ofString "" = (⟨⟨[]⟩⟩ : Str) := by kernel_rfl!
theorem tq_30 : Str.ofString "DISPLAY" = (⟨⟨[68, 73, 83, 80, 76, 65, 89]⟩⟩ : Str) := by kernel_rfl!
theorem tq_31 : Str.ofString "DISPLAY NO ADVANCING" = (⟨⟨[68, 73, 83, 80, 76, 65, 89, 32, 78, 79, 32, 65, 68, 86, 65, 78, 67, 73, 78, 71]⟩⟩ : Str) := by kernel_rfl!
theorem tq_32 : Str.ofString "DISPLAY K NO" = (⟨⟨[68, 73, 83, 80, 76, 65, 89, 32, 75, 32, 78, 79]⟩⟩ : Str) := by kernel_rfl!
theorem tq_33 : Str.ofString "DISPLAY K WITH NO ERROR" = (⟨⟨[68, 73, 83, 80, 76, 65, 89, 32, 75, 32, 87, 73, 84, 72, 32, 78, 79, 32, 69, 82, 82, 79, 82]⟩⟩ : Str) := by kernel_rfl!
theorem tq_34 : Str.ofString "law" = (⟨⟨[108, 97, 119]⟩⟩ : Str) := by kernel_rfl!
theorem tq_35 : Str.ofString ".0" = (⟨⟨[46, 48]⟩⟩ : Str) := by kernel_rfl!
theorem tq_36 : Str.ofString "fast" = (⟨⟨[102, 97, 115, 116]⟩⟩ : Str) := by kernel_rfl!

theorem kw_R51_1 : True := by
  (k_with "MINE ltr" => ((fail_if_success k_extra "past R51"); (first | with_reducible assumption | exact AllLt.all (by assumption))))
  (k_with "MINE use3" => ((fail_if_success k_extra "past R51"); (((case B9 => k_asm); (case F9 => k_asm); (case X9 => k_asm); (case T9 => k_asm); (case K9 => first | exact rfl | assumption); (case D9 => decide); (case U9 => decide)))))
  (k_with "MINE lw" => ((fail_if_success k_extra "past R51"); (first
  | with_reducible assumption
  | exact LW.cons (by walk_at "MINE lw") (by walk_at "MINE ltr"))))
  (k_with "MINE insub2" => ((fail_if_success k_extra "past R51"); (first
  | with_reducible exact h8
  | (with_reducible refine List.mem_cons_of_mem _ ?_; walk_at "MINE insub2")
  | (refine mem_sub (by with_reducible assumption) ?_; walk_at "MINE insub2"))))
  (k_with "MINE insub" => ((fail_if_success k_extra "past R51"); (first
  | with_reducible assumption
  | ((with_reducible refine mem_hd ?_); exact rfl)
  | (with_reducible refine List.mem_cons_of_mem _ ?_; walk_at "MINE insub")
  | (refine mem_sub (by with_reducible assumption) ?_; walk_at "MINE insub"))))
  (k_with "MINE neww" => ((fail_if_success k_extra "past R51"); (((case c9 => exact rfl); (case N9 => k_asm); (case W9 => walk_at "MINE lw"); walk_at "MINE use3"; intro l9 news9 h9 tk9 F9 N9 T9 s9 W9; (try k_sweep); (try dsimp only); (try k_fold)))))
  (k_with "MINE righted" => ((fail_if_success k_extra "past R51"); (((case W9 => walk_at "MINE lw"); walk_at "MINE use3"; intro news9 h9 tk9 F9 N9 W9 K9; (try replace hb := TokList.klt (Kpt.klt (Kpt.subl (fun y8 h8 => by walk_at "MINE insub2") K9)) hb); (try replace Kt := Kpt.trans Kt (Kpt.subl (fun y8 h8 => by walk_at "MINE insub2") K9)); (try replace hI := K9 (I3, oI) (by (have h8 := hI); walk_at "MINE insub2") (plain_iter hoI)); replace S := S.kpt (Kpt.subl (fun y8 h8 => by walk_at "MINE insub2") K9) W9; (try k_sweep); (try dsimp only); (try k_fold)))))
  (k_with "MINE slice" => ((fail_if_success k_extra "past R51"); ((refine Stop.mk ?_; refine Subscript_ ?_; (iterate 7 walk1); (with_reducible show wpAny _ _ (subscriptTail _ (PySem.Expr.Slice _ _ none _) (Value.ref _) (Value.ref _)) _ _ _); k_dflt (first
  | (refine' slice_ops (i := 4) (j := 5) ?F9 ?N9 ?m9 ?o9 ?p9 ?q9 (by decide) ?_ ?s9 ?t9; (case p9 => exact IsPart.int _ _); (case q9 => exact IsPart.int _ _); (case F9 => k_asm); (case N9 => k_asm); (case m9 => ((have h8 := S.ev); walk_at "MINE insub2")); (case o9 => exact OpsAll.mono (fun y8 h8 => by walk_at "MINE insub2") S.ops); (case s9 => with_unfolding_all rfl); (case t9 => (intro _; with_unfolding_all rfl)))
  | (refine' slice_ops (i := 3) (j := 5) ?F9 ?N9 ?m9 ?o9 ?p9 ?q9 (by decide) ?_ ?s9 ?t9; (case p9 => exact IsPart.int _ _); (case q9 => exact IsPart.int _ _); (case F9 => k_asm); (case N9 => k_asm); (case m9 => ((have h8 := S.ev); walk_at "MINE insub2")); (case o9 => exact OpsAll.mono (fun y8 h8 => by walk_at "MINE insub2") S.ops); (case s9 => with_unfolding_all rfl); (case t9 => (intro _; with_unfolding_all rfl)))); intro D9 vs9 h9 F9 N9 l9 hms hsl; k_sweep))))
  (k_with "eval Subscript Name Slice" => ((fail_if_success k_extra "past R51"); ((k_here; refine Stop.go ?_))))
  (k_with "eval Name" => ((fail_if_success k_extra "past R51"); ((k_here; k_dflt (first
  | ((with_reducible show wpAny _ _ (eval (Expr.Name (⟨⟨[101, 118, 101, 114, 121]⟩⟩ : Str) _) (envOfC _ _ _ _ _)) _ _ _); first
    | (refine' nameX_C (c := s₁.heap.objs.size + 1) (o := o1) ?N9 ?c9 ?m9 d1 ?_ ?a9 ?b9; (case a9 => rfl); (case b9 => rfl); (case N9 => k_asm); (case c9 => rfl); (case m9 => ((have h8 := S.hc1); walk_at "MINE insub2")))
    | (refine' nameX_C (c := s₁.heap.objs.size + 1) (o := o1) ?N9 ?c9 ?m9 d1 ?_ ?a9 ?b9; (case a9 => rfl); (case b9 => rfl); (case N9 => k_asm); (case c9 => rfl); (case m9 => ((have h8 := P.hc1); walk_at "MINE insub2"))))
  | ((with_reducible show wpAny _ _ (eval (Expr.Name (⟨⟨[112, 101, 110]⟩⟩ : Str) _) (envOfC _ _ _ _ _)) _ _ _); (refine' nameX_C (c := s₁.heap.objs.size + 1 + 1) (o := o5) ?N9 ?c9 ?m9 d5 ?_ ?a9 ?b9; (case a9 => rfl); (case b9 => rfl); (case N9 => k_asm); (case c9 => rfl); (case m9 => ((have h8 := P.hc2); walk_at "MINE insub2"))))
  | ((with_reducible show wpAny _ _ (eval (Expr.Name (⟨⟨[101, 118, 101, 114, 121]⟩⟩ : Str) _) (compEnvC _ _ _ _)) _ _ _); (refine' lcf_cell (c := s₁.heap.objs.size + 1) (o := o1) ?N9 ?c9 ?m9 d1 ?_ ?a9 ?b9; (case a9 => rfl); (case b9 => first | rfl | with_unfolding_all rfl); (case N9 => k_asm); (case c9 => rfl); (case m9 => ((have h8 := P.hc1); walk_at "MINE insub2"))))
  | ((with_reducible show wpAny _ _ (eval (Expr.Name (⟨⟨[112, 101, 110]⟩⟩ : Str) _) (compEnvC _ _ _ _)) _ _ _); (refine' lcf_cell (c := s₁.heap.objs.size + 1 + 1) (o := o5) ?N9 ?c9 ?m9 d5 ?_ ?a9 ?b9; (case a9 => rfl); (case b9 => first | rfl | with_unfolding_all rfl); (case N9 => k_asm); (case c9 => rfl); (case m9 => ((have h8 := P.hc2); walk_at "MINE insub2"))))
  | ((with_reducible show wpAny _ _ (eval (Expr.Name (⟨⟨[115, 116, 111, 112]⟩⟩ : Str) _) _) _ _ _); refine' nameX_L ?F9 mst ?_ ?a9 ?b9; (case F9 => k_asm); (case a9 => rfl); (case b9 => rfl))
  | ((with_reducible show wpAny _ _ (eval (Expr.Name (Str.ofString "stop") _) _) _ _ _); refine' nameX_L ?F9 mstq ?_ ?a9 ?b9; (case F9 => k_asm); (case a9 => rfl); (case b9 => rfl))
  | ((with_reducible show wpAny _ _ (eval (Expr.Name (⟨⟨[115, 99, 114, 105, 112, 116]⟩⟩ : Str) _) _) _ _ _); refine' nameX_L ?F9 ms ?_ ?a9 ?b9; (case F9 => k_asm); (case a9 => rfl); (case b9 => rfl))
  | ((with_reducible show wpAny _ _ (eval (Expr.Name (⟨⟨[98, 101, 104, 105, 110, 100, 115]⟩⟩ : Str) _) _) _ _ _); first | (refine' nameX_L ?F9 mb ?_ ?a9 ?b9; (case F9 => k_asm); (case a9 => rfl); (case b9 => rfl)) | (refine' nameX_L ?F9 (Eq.trans ?v9 mb) ?_ ?a9 ?b9; (case F9 => k_asm); (case v9 => first | rfl | with_unfolding_all rfl); (case a9 => rfl); (case b9 => rfl))))))))
  (k_with "MINE call" => ((fail_if_success k_extra "past R51"); (first
  | ((with_reducible show wpAny _ _ (call (Value.ref 530) _ _) _ _ _); first
    | (refine' useX (right_LX P _ 0 _ (by decide) hj9 _ _ _ ?x9 ?a9 ?b9 hone ?o9 Tb9) ?B9 ?F9 ?X9 ?N9 ?T9 ?K9 ?D9 ?U9 ?_; (case x9 => exact rfl); (case N9 => k_asm); (case a9 => (rw [List.size_toArray]; omega)); (case b9 => (rw [List.size_toArray]; omega)); (case o9 => exact hj1); walk_at "MINE use3"; intro news9 h9 tk9 F9 N9 P' K9; (try replace hone := K9 _ hone (plain_lst _ _)); (try replace hother := K9 _ hother (plain_lst _ _)); (try replace hbe := K9 _ hbe (plain_lst _ _)); (try replace hsum := K9 _ hsum (plain_lst _ _)); replace P := P'; (try k_sweep); (try dsimp only); (try k_fold))
    | (refine' useX (right_LX P _ _ _ he9 hj9 _ _ _ ?x9 ?a9 ?b9 hsum ?o9 Tb9) ?B9 ?F9 ?X9 ?N9 ?T9 ?K9 ?D9 ?U9 ?_; (case x9 => exact rfl); (case N9 => k_asm); (case a9 => (rw [List.size_toArray, List.length_append]; omega)); (case b9 => (rw [List.size_toArray, List.length_append]; omega)); (case o9 => exact hj12); walk_at "MINE use3"; intro news9 h9 tk9 F9 N9 P' K9; (try replace hone := K9 _ hone (plain_lst _ _)); (try replace hother := K9 _ hother (plain_lst _ _)); (try replace hbe := K9 _ hbe (plain_lst _ _)); (try replace hsum := K9 _ hsum (plain_lst _ _)); replace P := P'; (try k_sweep); (try dsimp only); (try k_fold))
    | (refine' useR (right_x _ 2 0 (by decide) (by decide) _ _ _ ?x9 (is := ops15) (by decide) ?m9 ?o9 (by decide) ?W9 ?t9) ?B9 ?F9 ?X9 ?N9 ?T9 ?K9 ?D9 ?U9 ?_; (case x9 => exact rfl); (case N9 => k_asm); (case m9 => ((have h8 := S.ev); walk_at "MINE insub2")); (case o9 => exact OpsAll.mono (fun y8 h8 => by walk_at "MINE insub2") S.ops); (case t9 => exact TokList.mono S.st (fun y8 h8 => by walk_at "MINE insub2")); walk_at "MINE righted")
    | (refine' useR (right_x _ 0 _ (by decide) hj2 _ _ _ ?x9 ?e9 ?m9 ?o9 ?z9 ?W9 ?t9) ?B9 ?F9 ?X9 ?N9 ?T9 ?K9 ?D9 ?U9 ?_; (case x9 => exact rfl); (case N9 => k_asm); (case o9 => exact OpsAll.mono (fun y8 h8 => by walk_at "MINE insub2") hsl); (case e9 => decide); (case z9 => decide); (case m9 => ((have h8 := hms); walk_at "MINE insub2")); (case t9 => exact TokList.mono hb (fun y8 h8 => by walk_at "MINE insub2")); walk_at "MINE righted")
    | (refine' useR (right_x _ 1 _ (by decide) hj2 _ _ _ ?x9 ?e9 ?m9 ?o9 ?z9 ?W9 ?t9) ?B9 ?F9 ?X9 ?N9 ?T9 ?K9 ?D9 ?U9 ?_; (case x9 => exact rfl); (case N9 => k_asm); (case o9 => exact OpsAll.mono (fun y8 h8 => by walk_at "MINE insub2") hsl); (case e9 => decide); (case z9 => decide); (case m9 => ((have h8 := hms); walk_at "MINE insub2")); (case t9 => exact TokList.mono hb (fun y8 h8 => by walk_at "MINE insub2")); walk_at "MINE righted")
    | (refine' useR (right_x8 _ _ _ _ ?x9 ?e9 ?m9 ?o9 ?z9 ?W9 ?t9) ?B9 ?F9 ?X9 ?N9 ?T9 ?K9 ?D9 ?U9 ?_; (case x9 => exact rfl); (case N9 => k_asm); (case o9 => exact OpsAll.mono (fun y8 h8 => by walk_at "MINE insub2") hsl); (case e9 => decide); (case z9 => decide); (case m9 => ((have h8 := hms); walk_at "MINE insub2")); (case t9 => exact T9); walk_at "MINE righted"))
  | ((with_reducible show wpAny _ _ (call (Value.ref 523) _ _) _ _ _); refine' useO (ops_W ?W9) ?B9 ?F9 ?X9 ?N9 ?T9 ?K9 ?D9 ?U9 ?_; (case N9 => k_asm); (case W9 => walk_at "MINE lw"); walk_at "MINE use3"; intro le its ni news9 h9 tk9 F9 N9 hle hops s9 W9; (try k_sweep); (try dsimp only); (try k_fold))
  | ((with_reducible show wpAny _ _ (call (Value.ref 537) _ _) _ _ _); first
    | (refine' useRS (refused_0 _ _ ?W9 ?t9) ?B9 ?F9 ?X9 ?N9 ?T9 ?K9 ?D9 ?U9 ?_; (case N9 => k_asm); (case t9 => exact l9T); walk_at "MINE righted")
    | (refine' useRS (refused_1 _ _ ?W9 ?t9) ?B9 ?F9 ?X9 ?N9 ?T9 ?K9 ?D9 ?U9 ?_; (case N9 => k_asm); (case t9 => exact T9); walk_at "MINE righted")
    | (refine' useRS (refused_2 _ _ ?W9 ?t9) ?B9 ?F9 ?X9 ?N9 ?T9 ?K9 ?D9 ?U9 ?_; (case N9 => k_asm); (case t9 => exact l9T); walk_at "MINE righted")
    | (refine' useRS (refused_3 _ _ ?W9 ?t9) ?B9 ?F9 ?X9 ?N9 ?T9 ?K9 ?D9 ?U9 ?_; (case N9 => k_asm); (case t9 => exact T9); walk_at "MINE righted"))
  | ((with_reducible show wpAny _ _ (call (Value.ref 485) _ _) _ _ _); refine' useP (pen_c _ hI0 hz0) ?B9 ?F9 ?X9 ?N9 ?T9 ?K9 ?D9 ?U9 hsl0 ?_; (case N9 => k_asm); walk_at "MINE use3"; intro pl pn cl9 news9 h9 tk9 F9 N9 s9 o9 nd9 ta9 ra9 P9; (have W9 := S.W.sub s9 (nd9 S.W.nd)); (try k_sweep); (try dsimp only); (try k_fold))
  | ((with_reducible show wpAny _ _ (call (Value.ref 492) _ _) _ _ _); refine' useD (draw_L P ?c9 _ _ ?a9 ?b9) ?B9 ?F9 ?X9 ?N9 ?T9 ?K9 ?D9 ?U9 ?_; (case N9 => k_asm); (case c9 => omega); (case a9 => decide); (case b9 => decide); walk_at "MINE use3"; intro d9 u9 news9 h9 tk9 F9 N9 dl9 du9 p9; have P' := p9.1; have q9 := p9.2; clear p9; (try replace hone := q9 _ hone hone2); (try replace hother := q9 _ hother hother2); (try replace hbe := q9 _ hbe hbe2); (try replace hsum := q9 _ hsum hsum2); replace P := P'; (try k_sweep); (try dsimp only); (try k_fold))
  | ((with_reducible show wpAny _ _ (call (Value.ref 499) _ _) _ _ _); first
    | (refine' useB (pick_B P ?c9 off9 ne9 hle6 hlene ?z9 ?y9) ?B9 ?F9 ?X9 ?N9 ?T9 ?K9 ?D9 ?U9 ?_; (case N9 => k_asm); (case c9 => omega); (case z9 => omega); (case y9 => omega); walk_at "MINE use3"; intro r9 led9 h9 tk9 F9 N9 off9 ex8 pp9; obtain ⟨ix9, ex9⟩ := ex8; (try k_sweep); (try dsimp only); (try k_fold))
    | (refine' con_use (pick_L P ?c9 hbe hbe2 ?z9 ?y9) ?B9 ?F9 ?X9 ?N9 ?T9 ?K9 ?D9 ?U9 ?_; (case N9 => k_asm); (case c9 => omega); (case z9 => simp); (case y9 => simp); walk_at "MINE use3"; intro r9 news9 h9 tk9 F9 N9 p9; obtain ⟨⟨ix9, ex9⟩, P', q9⟩ := p9; obtain ⟨lb9, jb9, x9, Tb9, hj9⟩ := BehAll.at S5.bhs ((Array.getElem?_toList ..).trans ex9); subst x9; (try replace hone := q9 _ hone hone2); (try replace hother := q9 _ hother hother2); (try replace hbe := q9 _ hbe hbe2); (try replace hsum := q9 _ hsum hsum2); replace P := P'; (try k_sweep); (try dsimp only); (try k_fold))
    | (refine' con_use (pick_L (LP.cons P ?l9) ?c9 (.head _) ?n9 ?z9 ?y9) ?B9 ?F9 ?X9 ?N9 ?T9 ?K9 ?D9 ?U9 ?_; (case N9 => k_asm); (case l9 => walk_at "MINE ltr"); (case n9 => exact LP.pl_gt P (by walk_at "MINE ltr")); (case c9 => omega); (case z9 => simp); (case y9 => simp); walk_at "MINE use3"; intro r9 news9 h9 tk9 F9 N9 p9; obtain ⟨⟨ix9, ex9⟩, P', q9⟩ := p9; obtain ⟨ee9, et9, he9, x9⟩ := end_of ex9; subst x9; (try replace hone := q9 _ (.tail _ hone) hone2); (try replace hother := q9 _ (.tail _ hother) hother2); (try replace hbe := q9 _ (.tail _ hbe) hbe2); replace P := P'; (try k_sweep); (try dsimp only); (try k_fold)))
  | ((with_reducible show wpAny _ _ (call (Value.ref 504) _ _) _ _ _); first
    | (refine' useW (words_W ?W9 (lw_ELSE _ _ ?c9)) ?B9 ?F9 ?X9 ?N9 ?T9 ?K9 ?D9 ?U9 ?_; walk_at "MINE neww")
    | (refine' useW (words_W ?W9 (lw_DK _ _ ?c9)) ?B9 ?F9 ?X9 ?N9 ?T9 ?K9 ?D9 ?U9 ?_; walk_at "MINE neww")
    | (refine' useW (words_W ?W9 (lw_ENDIF _ _ ?c9)) ?B9 ?F9 ?X9 ?N9 ?T9 ?K9 ?D9 ?U9 ?_; walk_at "MINE neww")
    | (refine' useW (words_W ?W9 (lw_WT _ _ ?c9)) ?B9 ?F9 ?X9 ?N9 ?T9 ?K9 ?D9 ?U9 ?_; walk_at "MINE neww")
    | (refine' useW (words_W ?W9 (lw_WITH _ _ ?c9)) ?B9 ?F9 ?X9 ?N9 ?T9 ?K9 ?D9 ?U9 ?_; walk_at "MINE neww")
    | (refine' useW (words_W ?W9 (lw_K _ _ ?c9)) ?B9 ?F9 ?X9 ?N9 ?T9 ?K9 ?D9 ?U9 ?_; walk_at "MINE neww")
    | (refine' useW (words_W ?W9 (lw_D _ _ ?c9)) ?B9 ?F9 ?X9 ?N9 ?T9 ?K9 ?D9 ?U9 ?_; walk_at "MINE neww")
    | (refine' useW (words_W ?W9 (lw_DNA _ _ ?c9)) ?B9 ?F9 ?X9 ?N9 ?T9 ?K9 ?D9 ?U9 ?_; walk_at "MINE neww")
    | (refine' useW (words_W ?W9 (lw_DKN _ _ ?c9)) ?B9 ?F9 ?X9 ?N9 ?T9 ?K9 ?D9 ?U9 ?_; walk_at "MINE neww")
    | (refine' useW (words_W ?W9 (lw_DKWNE _ _ ?c9)) ?B9 ?F9 ?X9 ?N9 ?T9 ?K9 ?D9 ?U9 ?_; walk_at "MINE neww")))))
  (k_with "storeName" => ((fail_if_success k_extra "past R51"); ((k_here; first
  | ((with_reducible show wpAny _ _ (storeName _ (⟨⟨[101, 118, 101, 114, 121]⟩⟩ : Str) _) _ _ _); refine Stop.go ?_)
  | ((with_reducible show wpAny _ _ (storeName _ (⟨⟨[112, 101, 110]⟩⟩ : Str) _) _ _ _); refine Stop.go ?_)))))
  (k_with "execs cons" => ((fail_if_success k_extra "past R51"); ((k_here; (with_reducible show wpAny _ _ (execs (Stmt.If _ _ _ _ :: _) _) _ _ _); refine Stop.go ?_))))
  (k_with "execs cons If" => ((fail_if_success k_extra "past R51"); ((k_here; (with_reducible show wpAny _ _ (execs (Stmt.If _ _ _ _ :: _) _) _ _ _); refine Stop.go ?_))))
  (k_with "exec For Name Name cons nil" => ((fail_if_success k_extra "past R51"); ((k_here; refine Stop.go ?_))))
  (k_with "exec For Name Name cons" => ((fail_if_success k_extra "past R51"); ((k_here; refine Stop.go ?_))))
  (k_with "exec For Name Name" => ((fail_if_success k_extra "past R51"); ((k_here; refine Stop.go ?_))))
  (k_with "exec For Name" => ((fail_if_success k_extra "past R51"); ((k_here; refine Stop.go ?_))))
  (k_with "ItemsRest" => ((fail_if_success k_extra "past R51"); (refine Stop.go ?_)))
  (k_with "UnrEndW" => ((fail_if_success k_extra "past R51"); (refine Stop.go ?_)))
  (k_with "binaryOp Add ref ref" => ((fail_if_success k_extra "past R51"); ((k_here; (with_reducible show wpAny _ _ (binaryOp _ (Value.ref _) (Value.ref _)) _ _ _); first | (have hone8 := hone; clear hone8; refine Stop.go ?_) | ((k_dflt (refine' add_toks ?k1 ?k2 ?k3 ?k4 ?k5 ?k6 ?_; (case k1 => k_asm); (case k2 => k_asm); (case k3 => exact fun _ h => h); (case k4 => exact T9); (case k5 => exact TokList.mono S.st (fun y8 h8 => by walk_at "MINE insub2")); (case k6 => decide))); intro D9 its9 k9 h9 F9 N9 l9 l9T e9)))))
  (k_with "CompSrc" => ((fail_if_success k_extra "past R51"); ((k_here; refine Stop.go ?_))))
  (k_with "CompEnd" => ((fail_if_success k_extra "past R51"); ((k_here; refine Stop.go ?_))))
  trivial

theorem useW {G : Gl} {f : Addr} {vs : List Value} {news : News'} {D U : Nat} {ts : Toks} {dp un : Nat} {gd : Option (List Code)} {cn : Str} {cs : Scope} {a : Addr} {ccd : Value} {cl0 : List (Str × Addr)} {outer : List Env} {A₀ : Around} {base h₀ : Heap} {L : Addr} {m : Str → Option Value} {s : Shared} {Q E : Value → Shared → Prop}
    (C : Con G f vs news D U (fun n v => NewW news ts n v)) (B : Below A₀ base outer h₀) (F : Fr h₀ L s.heap m) (X : (KN G.w.params).In h₀) (N : News h₀ L s.heap news) (T : Top topProg G.loose G.mean G.mg G.mb h₀) (hk : cs.kind = .function) (hd : dp + D < recursionLimit) (hu : un + U < cLine)
    (ret : ∀ l news' h' tk', Fr h₀ L h' m → News h₀ L h' news' → TokList news' l ts → (∀ x ∈ news, x ∈ news') → LW news' → Q (.ref l) { s with heap := h', toks := tk' }) :
    wpAny (model PySem.Challenge.rw_qd0103_01.prog G.w) (ktrTop dp un gd cn cs L a ccd cl0 outer) (call (.ref f) vs) Q E s :=
  con_use C B F X N T hk hd hu fun r n h t F' N' ⟨l, e, a, b, c⟩ => by subst e; exact ret l n h t F' N' a b c
theorem useR {G : Gl} {f : Addr} {vs : List Value} {news : News'} {D U : Nat} {x : Value} {dp un : Nat} {gd : Option (List Code)} {cn : Str} {cs : Scope} {a : Addr} {ccd : Value} {cl0 : List (Str × Addr)} {outer : List Env} {A₀ : Around} {base h₀ : Heap} {L : Addr} {m : Str → Option Value} {s : Shared} {Q E : Value → Shared → Prop}
    (C : Con G f vs news D U (fun n v => v = x ∧ LW n ∧ Kpt news n)) (B : Below A₀ base outer h₀) (F : Fr h₀ L s.heap m) (X : (KN G.w.params).In h₀) (N : News h₀ L s.heap news) (T : Top topProg G.loose G.mean G.mg G.mb h₀) (hk : cs.kind = .function) (hd : dp + D < recursionLimit) (hu : un + U < cLine)
    (ret : ∀ news' h' tk', Fr h₀ L h' m → News h₀ L h' news' → LW news' → Kpt news news' → Q x { s with heap := h', toks := tk' }) :
    wpAny (model PySem.Challenge.rw_qd0103_01.prog G.w) (ktrTop dp un gd cn cs L a ccd cl0 outer) (call (.ref f) vs) Q E s :=
  con_use C B F X N T hk hd hu fun r n h t F' N' ⟨e, a, b⟩ => by subst e; exact ret n h t F' N' a b
theorem useRS {G : Gl} {f : Addr} {vs : List Value} {news : News'} {D U : Nat}  {dp un : Nat} {gd : Option (List Code)} {cn : Str} {cs : Scope} {a : Addr} {ccd : Value} {cl0 : List (Str × Addr)} {A₀ : Around} {base h₀ : Heap} {L : Addr} {m : Str → Option Value} {s : Shared} {Q E : Value → Shared → Prop}
    (C : ConS G f vs news D U (RefPost news)) (B : Below A₀ base [] h₀) (F : Fr h₀ L s.heap m) (X : (KN G.w.params).In h₀) (N : News h₀ L s.heap news) (T : Top topProg G.loose G.mean G.mg G.mb h₀) (hk : cs.kind = .function) (hd : dp + D < recursionLimit) (hu : un + U < cLine)
    (ret : ∀ news' h' tk', Fr h₀ L h' m → News h₀ L h' news' → LW news' → Kpt news news' → Q (.bool true) { s with heap := h', toks := tk' }) :
    wpAny (model PySem.Challenge.rw_qd0103_01.prog G.w) (ktrTop dp un gd cn cs L a ccd cl0 []) (call (.ref f) vs) Q E s :=
  conS_use C B F X N T hk hd hu fun r n h t F' N' ⟨e, a, b⟩ => by subst e; exact ret n h t F' N' a b
theorem useX {G : Gl} {f : Addr} {vs : List Value} {news : News'} {D U : Nat} {x : Value} {Bn : News'} {pl cl : Addr} {pn : Nat} {c1 : Addr} {o1 : Obj} {c2 : Addr} {o2 : Obj} {le : Addr} {c : Int} {dp un : Nat} {gd : Option (List Code)} {cn : Str} {cs : Scope} {a : Addr} {ccd : Value} {cl0 : List (Str × Addr)} {outer : List Env} {A₀ : Around} {base h₀ : Heap} {L : Addr} {m : Str → Option Value} {s : Shared} {Q E : Value → Shared → Prop}
    (C : Con G f vs news D U (fun n v => v = x ∧ LP Bn pl cl pn c1 o1 c2 o2 le c n ∧ Kpt news n)) (B : Below A₀ base outer h₀) (F : Fr h₀ L s.heap m) (X : (KN G.w.params).In h₀) (N : News h₀ L s.heap news) (T : Top topProg G.loose G.mean G.mg G.mb h₀) (hk : cs.kind = .function) (hd : dp + D < recursionLimit) (hu : un + U < cLine)
    (ret : ∀ news' h' tk', Fr h₀ L h' m → News h₀ L h' news' → LP Bn pl cl pn c1 o1 c2 o2 le c news' → Kpt news news' → Q x { s with heap := h', toks := tk' }) :
    wpAny (model PySem.Challenge.rw_qd0103_01.prog G.w) (ktrTop dp un gd cn cs L a ccd cl0 outer) (call (.ref f) vs) Q E s :=
  con_use C B F X N T hk hd hu fun r n h t F' N' ⟨e, a, b⟩ => by subst e; exact ret n h t F' N' a b
theorem useO {G : Gl} {f : Addr} {vs : List Value} {news : News'} {D U : Nat}  {dp un : Nat} {gd : Option (List Code)} {cn : Str} {cs : Scope} {a : Addr} {ccd : Value} {cl0 : List (Str × Addr)} {outer : List Env} {A₀ : Around} {base h₀ : Heap} {L : Addr} {m : Str → Option Value} {s : Shared} {Q E : Value → Shared → Prop}
    (C : Con G f vs news D U (fun n v => NewO news n v)) (B : Below A₀ base outer h₀) (F : Fr h₀ L s.heap m) (X : (KN G.w.params).In h₀) (N : News h₀ L s.heap news) (T : Top topProg G.loose G.mean G.mg G.mb h₀) (hk : cs.kind = .function) (hd : dp + D < recursionLimit) (hu : un + U < cLine)
    (ret : ∀ l its k news' h' tk', Fr h₀ L h' m → News h₀ L h' news' → (l, lstO its k) ∈ news' → OpsAll news' its.toList ops15 → (∀ x ∈ news, x ∈ news') → LW news' → Q (.ref l) { s with heap := h', toks := tk' }) :
    wpAny (model PySem.Challenge.rw_qd0103_01.prog G.w) (ktrTop dp un gd cn cs L a ccd cl0 outer) (call (.ref f) vs) Q E s :=
  con_use C B F X N T hk hd hu fun r n h t F' N' ⟨l, its, k, e, a, b, c, d⟩ => by subst e; exact ret l its k n h t F' N' a b c d
theorem useP {G : Gl} {f : Addr} {vs : List Value} {news : News'} {D U : Nat} {sl : Addr} {its : List Value} {dp un : Nat} {gd : Option (List Code)} {cn : Str} {cs : Scope} {a : Addr} {ccd : Value} {cl0 : List (Str × Addr)} {outer : List Env} {A₀ : Around} {base h₀ : Heap} {L : Addr} {m : Str → Option Value} {s : Shared} {Q E : Value → Shared → Prop}
    (C : ConI G f vs sl its news D U (fun news' v => ∃ pl n cl, v = .ref pl ∧ (∀ x ∈ news, x ∈ news') ∧ (∀ x ∈ news, x.1 ≠ pl) ∧ ((news.map (·.1)).Nodup → (news'.map (·.1)).Nodup) ∧ ∃ ta ra, PenAt news' pl n cl 0 ta 0 ra)) (B : Below A₀ base outer h₀) (F : Fr h₀ L s.heap m) (X : (KN G.w.params).In h₀) (N : News h₀ L s.heap news) (T : Top topProg G.loose G.mean G.mg G.mb h₀) (hk : cs.kind = .function) (hd : dp + D < recursionLimit) (hu : un + U < cLine) (hsl : h₀.IsList sl its.toArray)
    (ret : ∀ pl n cl news' h' tk', Fr h₀ L h' m → News h₀ L h' news' → (∀ x ∈ news, x ∈ news') → (∀ x ∈ news, x.1 ≠ pl) → ((news.map (·.1)).Nodup → (news'.map (·.1)).Nodup) → ∀ ta ra, PenAt news' pl n cl 0 ta 0 ra → Q (.ref pl) { s with heap := h', toks := tk' }) :
    wpAny (model PySem.Challenge.rw_qd0103_01.prog G.w) (ktrTop dp un gd cn cs L a ccd cl0 outer) (call (.ref f) vs) Q E s :=
  conI_use C B F X N T hk hd hu hsl fun r n h t F' N' ⟨p, k, q, e, a, b, c, u, v, d⟩ => by subst e; exact ret p k q n h t F' N' a b c u v d
theorem useD {G : Gl} {f : Addr} {vs : List Value} {news : News'} {D U : Nat} {Bn : News'} {pl cl : Addr} {pn : Nat} {c1 : Addr} {o1 : Obj} {c2 : Addr} {o2 : Obj} {le : Addr} {c : Int} {many : Int} {dp un : Nat} {gd : Option (List Code)} {cn : Str} {cs : Scope} {a : Addr} {ccd : Value} {cl0 : List (Str × Addr)} {outer : List Env} {A₀ : Around} {base h₀ : Heap} {L : Addr} {m : Str → Option Value} {s : Shared} {Q E : Value → Shared → Prop}
    (C : Con G f vs news D U (fun news' v => ∃ d u, v = .int d u ∧ 0 ≤ d ∧ d < many ∧ PenPost Bn pl cl pn c1 o1 c2 o2 le (c + 1) news news')) (B : Below A₀ base outer h₀) (F : Fr h₀ L s.heap m) (X : (KN G.w.params).In h₀) (N : News h₀ L s.heap news) (T : Top topProg G.loose G.mean G.mg G.mb h₀) (hk : cs.kind = .function) (hd : dp + D < recursionLimit) (hu : un + U < cLine)
    (ret : ∀ d u news' h' tk', Fr h₀ L h' m → News h₀ L h' news' → 0 ≤ d → d < many → PenPost Bn pl cl pn c1 o1 c2 o2 le (c + 1) news news' → Q (.int d u) { s with heap := h', toks := tk' }) :
    wpAny (model PySem.Challenge.rw_qd0103_01.prog G.w) (ktrTop dp un gd cn cs L a ccd cl0 outer) (call (.ref f) vs) Q E s :=
  con_use C B F X N T hk hd hu fun r n h t F' N' ⟨d, u, e, a, b, c⟩ => by subst e; exact ret d u n h t F' N' a b c
theorem useB {G : Gl} {f : Addr} {vs : List Value} {news : News'} {D U : Nat} {Bn : News'} {pl cl : Addr} {pn : Nat} {c1 : Addr} {o1 : Obj} {c2 : Addr} {o2 : Obj} {le : Addr} {c : Int} {led : News'} {I C0 D0 : Addr} {oI oC oD : Obj} {its : Array Value} {dp un : Nat} {gd : Option (List Code)} {cn : Str} {cs : Scope} {a : Addr} {ccd : Value} {cl0 : List (Str × Addr)} {outer : List Env} {A₀ : Around} {base h₀ : Heap} {L : Addr} {m : Str → Option Value} {s : Shared} {Q E : Value → Shared → Prop}
    (C : Con G f vs news D U (fun news' v => ∃ led', news' = (I, oI) :: (C0, oC) :: (D0, oD) :: led' ∧ LCg.Off3 I C0 D0 led' ∧ (∃ i : Nat, its[i]? = some v) ∧ PenPost Bn pl cl pn c1 o1 c2 o2 le (c + 1) led led')) (B : Below A₀ base outer h₀) (F : Fr h₀ L s.heap m) (X : (KN G.w.params).In h₀) (N : News h₀ L s.heap news) (T : Top topProg G.loose G.mean G.mg G.mb h₀) (hk : cs.kind = .function) (hd : dp + D < recursionLimit) (hu : un + U < cLine)
    (ret : ∀ v led' h' tk', Fr h₀ L h' m → News h₀ L h' ((I, oI) :: (C0, oC) :: (D0, oD) :: led') → LCg.Off3 I C0 D0 led' → (∃ i : Nat, its[i]? = some v) → PenPost Bn pl cl pn c1 o1 c2 o2 le (c + 1) led led' → Q v { s with heap := h', toks := tk' }) :
    wpAny (model PySem.Challenge.rw_qd0103_01.prog G.w) (ktrTop dp un gd cn cs L a ccd cl0 outer) (call (.ref f) vs) Q E s :=
  con_use C B F X N T hk hd hu fun r n h t F' N' ⟨l, e, a, b, c⟩ => by subst e; exact ret r l h t F' N' a b c
theorem gl_of {w : World} {lo : List Str} {me : ExcName → Option Value} {mg mb : Str → Option Value} {h : Heap} (T : Top topProg lo me mg mb h) : ∃ G9 : Gl, w = G9.w ∧ mg = G9.mg ∧ mb = G9.mb ∧ Top topProg G9.loose G9.mean G9.mg G9.mb h := ⟨⟨w, lo, me, mg, mb⟩, rfl, rfl, rfl, T⟩
set_option maxHeartbeats 4000000 in
theorem law_walk : PySem.Challenge.rw_qd0103_01.Holds := by
  refine holds_law said (fun said => head rfl rfl rfl ?_)
  k_fill
  intro w s₀ s₁ mg mb G y fa o pm cd doc dV kV ho hd hcd hD hmg hg args vals as L hpre hlay hrd hwl hlo
  obtain ⟨ZA, ZI, ZN, ZT⟩ := z_facts (fun P => by kernel_rfl) y
  have ZA1 := allIn_keeps (Laid.keeps L) ZA
  have KX9 : (KF w.params).In s₁.heap := allIn_in ZA1
  have hT9 : TabsAt [(236, 232), (529, 525), (536, 532)] s₁.heap := List.forall_mem_cons.mpr ⟨⟨codeHd_of_K KX9 (by kernel_rfl), KX9 232 _ (by kernel_rfl)⟩, List.forall_mem_cons.mpr ⟨⟨codeHd_of_K KX9 (by kernel_rfl), KX9 525 _ (by kernel_rfl)⟩, List.forall_mem_cons.mpr ⟨⟨codeHd_of_K KX9 (by kernel_rfl), KX9 532 _ (by kernel_rfl)⟩, fun _ h => nomatch h⟩⟩⟩
  clear KX9
  have X : (KN w.params).In s₁.heap := KN_in ZA1
  clear ZA ZI ZA1 y
  refine Ground.open G ?_
  intro T B D TE TW
  try (refine guard_noD D (by decide +kernel) ?_; clear D)
  clear hmg
  wrow_args hpre hlay hrd hwl hlo
  all_goals (first | refine callC_kw (enter_call ?_) | refine enter_call ?_)
  w_top on
  kn_posts
  w_call any ho hd hcd hD T F
  clear hd
  kn_ghosts F T
  k_drop
  dsimp only
  rename News _ _ _ _ => N0
  rename Fr _ _ _ _ => F0
  rename IntsAre _ _ => hI0
  rename Heap.IsList (ghostOf _ _) _ _ => hsl0
  rename Below _ _ _ _ => B0
  rename (232 < _ ∧ 525 < _ ∧ 532 < _) => l0
  clear hcd hD B TE TW G ho said
  rename Top topProg _ _ _ _ _ => T8
  obtain ⟨G9, hw9, hmg9, hmb9, T9⟩ := gl_of (w := w) T8
  clear T8
  subst hw9 hmg9 hmb9
  rw [sw_range]
  (try rw [tq_0] at F0)
  (try w_binds F0)
  rename CellsAre _ _ _ => j1
  rename Reads _ _ _ _ => j2
  rename ReadsAll _ _ _ _ => j3
  rename ReadsAllW _ _ _ _ _ _ => j4
  rename Well _ _ _ _ => j5
  clear j1 j2 j3 j4 j5
  have W0 := LW.firstN l0 N0
  have hm0 := cells_mem N0
  obtain ⟨hmp0, hme0⟩ := hm0


  rename (Obj.data _ = Data.cell (bindC _ _ _ _)) => hde0
  replace hde0 := hde0.trans (show Data.cell _ = Data.cell none by kernel_rfl)
  rename (Obj.data _ = Data.cell (bindC _ _ _ _)) => hdp0
  replace hdp0 := hdp0.trans (show Data.cell _ = Data.cell none by kernel_rfl)
  show wpAny (model PySem.Challenge.rw_qd0103_01.prog _) (ktrTop _ _ _ _ _ _ _ _ _ []) _ _ _ _
  rename Frag.In (KN _) _ => X9
  revert X9
  k_fill
  intro X9
  k_steps
  refine Stop.mk ?_
  rename News _ _ _ _ => N8
  rename Fr _ _ _ _ => F8
  refine' store_cell_W ?sF ?sN ?sW ?sc ?sm ?sd ?_ ?sa ?sb
  case sa => rfl
  case sb => rfl
  case sF => k_asm
  case sN => k_asm
  case sc => exact (show List.lookup _ _ = some (s₁.heap.objs.size + 1) from by kernel_rfl!)
  case sW => walk_at "MINE lw"
  case sm => walk_at "MINE insub"
  case sd => exact hde0
  intro h1 o1 led1 F1 N1 W1 K1 k1 m1 d1
  have hst1 := (st_of N8).klt K1
  have hle1 : (le, lstO its ni) ∈ led1 := K1 _ (.tail _ (.tail _ (.tail _ hle))) (.lst _ _)
  have hops1 : OpsAll led1 its.toList ops15 := (hops.mono (fun x h => .tail _ (.tail _ (.tail _ h)))).klt K1
  have hmp1 := k1 _ (.tail _ (.tail _ (.tail _ (s9 _ hmp0)))) (Nat.succ_ne_self _)
  clear hle hops s9 W0 N8 F8 K1 k1 hme0 hde0 W9 hmp0
  k_steps
  refine Stop.mk ?_
  rename News _ _ _ _ => N2
  rename Fr _ _ _ _ => F2
  obtain ⟨led2, N3, S⟩ := beh_of N2 (by walk_at "MINE lw") (fun y8 h8 => by walk_at "MINE insub2") hst1 hle1 hops1 m1 d1 hmp1 hdp0 (TokList.mono (by with_reducible assumption) (fun y8 h8 => by walk_at "MINE insub2")) (TokList.mono (by with_reducible assumption) (fun y8 h8 => by walk_at "MINE insub2")) (TokList.mono (by with_reducible assumption) (fun y8 h8 => by walk_at "MINE insub2")) (TokList.mono (by with_reducible assumption) (fun y8 h8 => by walk_at "MINE insub2")) (TokList.mono (by with_reducible assumption) (fun y8 h8 => by walk_at "MINE insub2"))
  clear N2 hst1 hle1 hops1 m1 hmp1
  have W9 := S.W
  refine wpAny_execs_cons ?_
  k_steps
  walk_at "MINE slice"
  k_steps
  refine Stop.mk ?_
  rename News _ _ _ _ => N4
  rename Fr _ _ _ _ => F4
  with_unfolding_all refine' For_turns F4 ?_
  walk1
  with_unfolding_all refine' iter_listTurns ?ia1 F4 ?ia2 ?ia3 ?ia4 ?ia5 ?_
  case ia1 => exact rfl
  case ia2 => exact N4
  case ia3 => exact S.bh
  case ia4 => exact rfl
  case ia5 => with_unfolding_all rfl
  intro I3 l3
  have binv := beh_start F4 S l3 (sl := _) (by first | rfl | with_unfolding_all rfl) (by first | rfl | with_unfolding_all rfl) (by first | rfl | with_unfolding_all rfl)
  refine beh_loop (G := fun vs m led => ItemsRest _ _ _ _ _ _ _ _ _ _ _ _ (vs.map .val) m led) binv rfl ?_
  clear N4 binv S
  intro vs js m₂ led ⟨S, hbh, offI, ms, mst, mb⟩ IH
  cases hbh with
  | nil =>
    refine ItemsRest.zero ?_
    intro h₁ tk₁ F₁ N₁
    have F₂ : Fr (ghostOf s₁.heap [(236, 232), (529, 525), (536, 532)]) s₁.heap.objs.size h₁ m₂ := F₁
    have N₂ : News (ghostOf s₁.heap [(236, 232), (529, 525), (536, 532)]) s₁.heap.objs.size h₁ led := N₁
    clear F₁ N₁ IH
    have W9 := S.W
    have mstq := (congrArg m₂ tq_2).trans mst
    have hz0 := hI0.length
    rename (¬ (63 : Int) < _) => hc63
    replace hz0 : List.length _ ≤ 63 := Nat.le_trans (Nat.le_of_eq hz0) (by omega)
    k_steps
    refine Stop.mk ?_
    refine wpAny_execs_cons ?_
    k_steps
    refine Stop.mk ?_
    refine wpAny_execs_cons ?_
    k_steps
    refine Stop.mk ?_
    refine' store_cell_W ?sF ?sN ?sW ?sc ?sm ?sd ?_ ?sa ?sb
    case sa => rfl
    case sb => rfl
    case sF => exact F9
    case sN => exact N9
    case sc => exact (show List.lookup _ _ = some (s₁.heap.objs.size + 1 + 1) from by kernel_rfl!)
    case sW => exact W9
    case sm => exact s9 _ S.hc2
    case sd => exact S.hd2
    intro h5 o5 led5 F5 N5 W5 K5 k5 m5 d5
    have P := LP.start S s9 o9 P9 W5 K5 k5 (Nat.ne_of_lt (Nat.lt_succ_self _)) m5 d5
    have S5 := S
    clear K5 k5 m5 N9 F9 P9 s9 o9 nd9 S W9 W5
    k_steps
    refine Stop.mk ?_
    have hle5 := P.K _ S5.ev (LT.lst _ _)
    have hlene := P.off _ S5.ev
    have hz15 := hops_len S5.ops
    obtain ⟨r1, r2⟩ := range_one (d := 1 + d9) (by omega) (by omega)
    k_dflt (refine LCg.CompSrc.range (by rfl) (by assumption) (by assumption) (by assumption) r1 r2 (Nat.le_trans (by omega : _ ≤ 64) (by decide)) ?_)
    clear r1 r2
    intro g9
    refine comp_ind (J := JPick _ pl cl9 pn _ o1 _ o5 le _ _) ?zero1 ?step1 (jpick_start P)
    case step1 =>
      refine jpick_step S5.ops ?_
      rintro k1 i1 ys1 led1' hk1 P hl1 hj1 hk0 IH
      refine LCg.CompRest.succ ?_
      intro v9 I9 oI9 C9 oC9 D9 m9 h9 tk9 E9 hv9 hC9 hx9 F9 N9 off9 ne9
      obtain ⟨t9, rfl⟩ := hv9
      have hle6 := hk0 _ hle5 hlene
      k_steps
      refine Stop.mk ?_
      rename News _ _ _ _ => N10
      rename Fr _ _ _ _ => F10
      have IH9 := IH _ _ _ ex9 pp9
      refine LCg.CompEnd.intro F10 N10 led9 (fun _ h => h) off9 True.intro ?_
      exact IH9
    case zero1 =>
      refine jpick_zero ?_
      intro ys1 led1' P hl1 hj1 hk1
      refine LCg.CompRest.zero ?_
      dsimp only
      unfold LCg.FinA
      intro D7 h7 tk7 F7 N7 o7
      have hone := mem_here N7
      have hone2 := LP.pl_ne P (off1_all o7)
      replace P := LP.consNe (o := LCg.lst ys1) P (off1_all o7)
      have hbe := P.K _ S5.bh (LT.lst _ _)
      have hbe2 := P.off _ S5.bh
      k_steps
      refine Stop.mk ?_
      obtain ⟨r1, r2⟩ := range_one (d := d9) (by omega) (by omega)
      k_dflt (refine LCg.CompSrc.range (by rfl) (by assumption) (by assumption) (by assumption) r1 r2 (Nat.le_trans (by omega : _ ≤ 64) (by decide)) ?_)
      clear r1 r2
      intro g9
      have hle7 := P.K _ S5.ev (LT.lst _ _)
      refine comp_ind (J := JPick _ pl cl9 pn _ o1 _ o5 le _ _) ?zero2 ?step2 (jpick_start P)
      case step2 =>
        refine jpick_step S5.ops ?_
        rintro k1 i1 ys2 led2' hk2 P hl2 hj2 hk3 IH
        refine LCg.CompRest.succ ?_
        intro v9 I9 oI9 C9 oC9 D9 m9 h9 tk9 E9 hv9 hC9 hx9 F9 N9 off9 ne9
        obtain ⟨t9, rfl⟩ := hv9
        have hle6 := hk3 _ hle7 hlene
        k_steps
        refine Stop.mk ?_
        rename News _ _ _ _ => N10
        rename Fr _ _ _ _ => F10
        have IH9 := IH _ _ _ ex9 pp9
        refine LCg.CompEnd.intro F10 N10 led9 (fun _ h => h) off9 True.intro ?_
        exact IH9
      case zero2 =>
        refine jpick_zero ?_
        intro ys2 led2' P hl2 hj2 hk2
        refine LCg.CompRest.zero ?_
        dsimp only
        unfold LCg.FinA
        intro D8 h8 tk8 F8 N8 o8
        have hother := mem_here N8
        have hother2 := LP.pl_ne P (off1_all o8)
        have hone1 := hk2 _ hone hone2
        replace P := LP.consNe (o := LCg.lst ys2) P (off1_all o8)
        clear hone
        have hone : (D7, LCg.lst ys1) ∈ (D8, LCg.lst ys2) :: led2' := List.mem_cons_of_mem _ hone1
        replace hbe := P.K _ S5.bh (LT.lst _ _)
        k_steps
        refine Stop.mk ?_
        rename News _ _ _ _ => N9
        rename Fr _ _ _ _ => F9
        refine add_refs F9 N9 hone hother (by rw [hl1, hl2]; omega) ?_
        clear F9 N9
        intro D9 k9 h9 F9 N9 l9
        have P9 := P
        replace P := LP.consN N9 P l9
        replace hone := List.mem_cons_of_mem (D9, lstO (ys1 ++ ys2).toArray k9) hone
        replace hother := List.mem_cons_of_mem (D9, lstO (ys1 ++ ys2).toArray k9) hother
        replace hbe := List.mem_cons_of_mem (D9, lstO (ys1 ++ ys2).toArray k9) hbe
        have hsum := mem_here N9
        have hsum2 := LP.pl_gt P9 l9
        have hj12 := opsAll_two hj1 hj2
        clear P9
        k_sweep
        repeat (first | (k_unfold; (try dsimp only)) | walk1 | (dsimp only; walk1))
        rename Fr _ _ _ _ => F10
        refine goodW_bool F10 ?_ (raisesW_false ?_) ?_
        · exact hg
        · wrow_none_raised
        · exact post_law _
        · exact P.W.grown N9
  | @cons lj jj vs' js' hb hj2 hbr =>
    simp only [List.map_cons]
    refine ItemsRest.val ?_
    intro h₁ tk₁ F₁
    refine AllObj.cons fun oI hoI => AllObj.nil ?_
    intro N₁
    have W9 : LW ((I3, oI) :: led) := S.W.consNe offI
    have hI : (I3, oI) ∈ (I3, oI) :: led := .head _
    have S0 := S
    have hb0 := hb
    have Kt := Kpt.refl led
    have F₂ : Fr (ghostOf s₁.heap [(236, 232), (529, 525), (536, 532)]) s₁.heap.objs.size h₁ _ := F₁
    have N₂ : News (ghostOf s₁.heap [(236, 232), (529, 525), (536, 532)]) s₁.heap.objs.size h₁ ((I3, oI) :: led) := N₁
    clear F₁ N₁
    k_steps
    refine Stop.mk ?_
    refine wpAny_execs_cons ?_
    k_steps
    walk_at "MINE slice"
    k_steps
    walk_at "MINE slice"
    k_steps
    refine Stop.mk ?_
    rename Fr _ _ _ _ => F5
    rename News _ _ _ _ => N5
    refine beh_end F5 N5 hI (mem_off S.bh (offI _ S0.bh)) (IH _ _ _ _ rfl rfl _ _ ⟨S0.kpt (Kpt.off offI Kt) (LW.off S0.W offI S.W), hbr.klt (Kpt.off offI Kt).klt, off_ne, ms, mst, mb⟩)

theorem kw_R51_end : True := by
  (k_with "past R51" => skip)
  trivial
end Mine
end
theorem PySem.Challenge.cw_qd0103_01_holds : PySem.Challenge.rw_qd0103_01.Holds := by
  exact Mine.law_walk
