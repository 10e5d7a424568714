import PyProof.Rows.All
import Wide.All
import OpenK.AllK
import Wide.FinOn
import Lean
import PySem.Challenge.RW_pb0237_04
open PySem PySem.W PyProof.Rows
set_option Elab.async false
set_option maxRecDepth 100000
set_option maxHeartbeats 4000000
namespace Mine
def emptyF (s : Stmt) : Stmt := match s with
  | .ClassDef n b k body d t sc ts bd more pos => if n == "FileFault" then .ClassDef n b k [] d t sc ts bd more pos else .ClassDef n b k body d t sc ts bd more pos
  | s => s
def cutL (e : PySem.Expr) : PySem.Expr := match e with
  | .Tuple es k p => (match es.reverse with
    | (.Tuple (a :: _) k2 p2) :: r => .Tuple ((PySem.Expr.Tuple [a] k2 p2 :: r).reverse) k p
    | _ => .Tuple es k p)
  | e => e
def cutT (s : Stmt) : Stmt := match s with
  | .Assign [.Name x q] e p => if x == "_law_TOLD" then .Assign [.Name x q] (cutL e) p else .Assign [.Name x q] e p
  | s => s
def pwX : Program := { PySem.Challenge.pw_pb0237_04 with main := { PySem.Challenge.pw_pb0237_04.main with body := PySem.Challenge.pw_pb0237_04.main.body.map fun s => cutT (emptyF s) } }
def rwX : OpenLaw := { PySem.Challenge.rw_pb0237_04 with prog := pwX }
local macro_rules | `(tactic| o_law) => `(tactic| refine holds_law (by decide +kernel) fun said => ?_)
set_option synthInstance.maxSize 1 in
open_top hdX for rwX
@[reducible] noncomputable def K4 (P : PySem.Params) : Frag := by
  refine' (?f : Mine.hdX.heap_1 P = (nat_lit 2, ?o_2) :: (nat_lit 3, ?o_3) :: (nat_lit 15, ?o_15) :: (nat_lit 17, ?o_17) :: (nat_lit 18, ?o_18) :: (nat_lit 20, ?o_20) :: (nat_lit 21, ?o_21) :: (nat_lit 22, ?o_22) :: (nat_lit 29, ?o_29) :: (nat_lit 30, ?o_30) :: (nat_lit 31, ?o_31) :: (nat_lit 33, ?o_33) :: (nat_lit 34, ?o_34) :: (nat_lit 36, ?o_36) :: (nat_lit 37, ?o_37) :: (nat_lit 38, ?o_38) :: (nat_lit 40, ?o_40) :: (nat_lit 41, ?o_41) :: (nat_lit 43, ?o_43) :: (nat_lit 44, ?o_44) :: (nat_lit 45, ?o_45) :: (nat_lit 46, ?o_46) :: (nat_lit 47, ?o_47) :: (nat_lit 48, ?o_48) :: (nat_lit 51, ?o_51) :: (nat_lit 58, ?o_58) :: (nat_lit 59, ?o_59) :: (nat_lit 60, ?o_60) :: (nat_lit 63, ?o_63) :: (nat_lit 64, ?o_64) :: (nat_lit 66, ?o_66) :: (nat_lit 67, ?o_67) :: (nat_lit 69, ?o_69) :: (nat_lit 70, ?o_70) :: (nat_lit 78, ?o_78) :: (nat_lit 79, ?o_79) :: (nat_lit 81, ?o_81) :: (nat_lit 82, ?o_82) :: (nat_lit 84, ?o_84) :: (nat_lit 85, ?o_85) :: (nat_lit 86, ?o_86) :: (nat_lit 88, ?o_88) :: (nat_lit 89, ?o_89) :: (nat_lit 91, ?o_91) :: (nat_lit 92, ?o_92) :: (nat_lit 93, ?o_93) :: (nat_lit 95, ?o_95) :: (nat_lit 96, ?o_96) :: (nat_lit 98, ?o_98) :: (nat_lit 99, ?o_99) :: (nat_lit 100, ?o_100) :: (nat_lit 102, ?o_102) :: (nat_lit 103, ?o_103) :: (nat_lit 105, ?o_105) :: (nat_lit 106, ?o_106) :: (nat_lit 107, ?o_107) :: (nat_lit 109, ?o_109) :: (nat_lit 110, ?o_110) :: (nat_lit 112, ?o_112) :: (nat_lit 113, ?o_113) :: (nat_lit 114, ?o_114) :: (nat_lit 116, ?o_116) :: (nat_lit 117, ?o_117) :: (nat_lit 119, ?o_119) :: (nat_lit 120, ?o_120) :: (nat_lit 121, ?o_121) :: (nat_lit 123, ?o_123) :: (nat_lit 124, ?o_124) :: (nat_lit 126, ?o_126) :: (nat_lit 127, ?o_127) :: (nat_lit 128, ?o_128) :: (nat_lit 129, ?o_129) :: (nat_lit 131, ?o_131) :: (nat_lit 132, ?o_132) :: (nat_lit 134, ?o_134) :: (nat_lit 135, ?o_135) :: (nat_lit 136, ?o_136) :: (nat_lit 138, ?o_138) :: (nat_lit 139, ?o_139) :: (nat_lit 141, ?o_141) :: (nat_lit 142, ?o_142) :: (nat_lit 143, ?o_143) :: (nat_lit 144, ?o_144) :: (nat_lit 146, ?o_146) :: (nat_lit 147, ?o_147) :: (nat_lit 149, ?o_149) :: (nat_lit 150, ?o_150) :: (nat_lit 151, ?o_151) :: (nat_lit 152, ?o_152) :: (nat_lit 154, ?o_154) :: (nat_lit 155, ?o_155) :: (nat_lit 157, ?o_157) :: (nat_lit 158, ?o_158) :: (nat_lit 159, ?o_159) :: (nat_lit 162, ?o_162) :: (nat_lit 163, ?o_163) :: (nat_lit 164, ?o_164) :: (nat_lit 165, ?o_165) :: (nat_lit 166, ?o_166) :: (nat_lit 167, ?o_167) :: (nat_lit 168, ?o_168) :: (nat_lit 171, ?o_171) :: (nat_lit 172, ?o_172) :: (nat_lit 173, ?o_173) :: (nat_lit 174, ?o_174) :: (nat_lit 175, ?o_175) :: (nat_lit 176, ?o_176) :: (nat_lit 177, ?o_177) :: (nat_lit 178, ?o_178) :: (nat_lit 179, ?o_179) :: (nat_lit 180, ?o_180) :: (nat_lit 181, ?o_181) :: (nat_lit 182, ?o_182) :: (nat_lit 183, ?o_183) :: (nat_lit 184, ?o_184) :: (nat_lit 185, ?o_185) :: (nat_lit 186, ?o_186) :: (nat_lit 187, ?o_187) :: (nat_lit 188, ?o_188) :: (nat_lit 189, ?o_189) :: (nat_lit 190, ?o_190) :: (nat_lit 191, ?o_191) :: (nat_lit 192, ?o_192) :: (nat_lit 193, ?o_193) :: (nat_lit 195, ?o_195) :: (nat_lit 196, ?o_196) :: (nat_lit 198, ?o_198) :: (nat_lit 199, ?o_199) :: (nat_lit 200, ?o_200) :: (nat_lit 202, ?o_202) :: (nat_lit 203, ?o_203) :: (nat_lit 205, ?o_205) :: (nat_lit 206, ?o_206) :: (nat_lit 207, ?o_207) :: (nat_lit 210, ?o_210) :: (nat_lit 211, ?o_211) :: (nat_lit 212, ?o_212) :: (nat_lit 214, ?o_214) :: (nat_lit 215, ?o_215) :: (nat_lit 217, ?o_217) :: (nat_lit 218, ?o_218) :: (nat_lit 219, ?o_219) :: (nat_lit 222, ?o_222) :: (nat_lit 223, ?o_223) :: (nat_lit 224, ?o_224) :: (nat_lit 227, ?o_227) :: (nat_lit 228, ?o_228) :: (nat_lit 229, ?o_229) :: (nat_lit 232, ?o_232) :: (nat_lit 233, ?o_233) :: [] → Frag) (Eq.refl _)
  case f => exact fun _ => (nat_lit 2, ?o_2) :: (nat_lit 3, { cls := Value.type "dict", data := Data.dict #[{ hash := PySem.PyData.keyHash P (PySem.Str.ofString "__name__"), key := Value.str (PySem.Str.ofString "__name__") 165, val := Value.str (PySem.Str.ofString "law_pb0237_04") 405 }, { hash := PySem.PyData.keyHash P (PySem.Str.ofString "__doc__"), key := Value.str (PySem.Str.ofString "__doc__") 166, val := Value.none }, { hash := PySem.PyData.keyHash P (PySem.Str.ofString "__package__"), key := Value.str (PySem.Str.ofString "__package__") 167, val := Value.none }, { hash := PySem.PyData.keyHash P (PySem.Str.ofString "__loader__"), key := Value.str (PySem.Str.ofString "__loader__") 168, val := Value.builtin "__main__.__loader__#opaque" }, { hash := PySem.PyData.keyHash P (PySem.Str.ofString "__spec__"), key := Value.str (PySem.Str.ofString "__spec__") 169, val := Value.none }, { hash := PySem.PyData.keyHash P (PySem.Str.ofString "__annotations__"), key := Value.str (PySem.Str.ofString "__annotations__") 170, val := Value.ref 6 }, { hash := PySem.PyData.keyHash P (PySem.Str.ofString "__builtins__"), key := Value.str (PySem.Str.ofString "__builtins__") 171, val := Value.ref 4 }, { hash := PySem.PyData.keyHash P (PySem.Str.ofString "__file__"), key := Value.str (PySem.Str.ofString "__file__") 173, val := Value.str (PySem.Str.ofString "/claim/cut.py") 172 }, { hash := PySem.PyData.keyHash P (PySem.Str.ofString "__cached__"), key := Value.str (PySem.Str.ofString "__cached__") 174, val := Value.none }, { hash := PySem.PyData.keyHash P (PySem.Str.ofString "_wall"), key := Value.str (PySem.Str.ofString "_wall") 193, val := Value.ref 21 }, { hash := PySem.PyData.keyHash P (PySem.Str.ofString "LedgerError"), key := Value.str (PySem.Str.ofString "LedgerError") 235, val := Value.ref 47 }, { hash := PySem.PyData.keyHash P (PySem.Str.ofString "FileFault"), key := Value.str (PySem.Str.ofString "FileFault") 251, val := Value.ref 60 }, { hash := PySem.PyData.keyHash P (PySem.Str.ofString "BY_ORDER"), key := Value.str (PySem.Str.ofString "BY_ORDER") 256, val := Value.ref 63 }, { hash := PySem.PyData.keyHash P (PySem.Str.ofString "least_from"), key := Value.str (PySem.Str.ofString "least_from") 265, val := Value.ref 70 }, { hash := PySem.PyData.keyHash P (PySem.Str.ofString "RelFile"), key := Value.str (PySem.Str.ofString "RelFile") 404, val := Value.ref 166 }, { hash := PySem.PyData.keyHash P (PySem.Str.ofString "_law_DEEDS"), key := Value.str (PySem.Str.ofString "_law_DEEDS") 435, val := Value.ref 185 }, { hash := PySem.PyData.keyHash P (PySem.Str.ofString "_law_TOLD"), key := Value.str (PySem.Str.ofString "_law_TOLD") 456, val := Value.ref 192 }, { hash := PySem.PyData.keyHash P (PySem.Str.ofString "_law_taker"), key := Value.str (PySem.Str.ofString "_law_taker") 466, val := Value.ref 199 }, { hash := PySem.PyData.keyHash P (PySem.Str.ofString "_law_swept"), key := Value.str (PySem.Str.ofString "_law_swept") 479, val := Value.ref 206 }, { hash := PySem.PyData.keyHash P (PySem.Str.ofString "_law_emptied"), key := Value.str (PySem.Str.ofString "_law_emptied") 485, val := Value.ref 211 }, { hash := PySem.PyData.keyHash P (PySem.Str.ofString "_law_met"), key := Value.str (PySem.Str.ofString "_law_met") 497, val := Value.ref 218 }, { hash := PySem.PyData.keyHash P (PySem.Str.ofString "_law_met_due"), key := Value.str (PySem.Str.ofString "_law_met_due") 503, val := Value.ref 223 }, { hash := PySem.PyData.keyHash P (PySem.Str.ofString "_law_right"), key := Value.str (PySem.Str.ofString "_law_right") 509, val := Value.ref 228 }, { hash := PySem.PyData.keyHash P (PySem.Str.ofString "law"), key := Value.str (PySem.Str.ofString "law") 515, val := Value.ref 233 }] 24 }) :: (nat_lit 15, ?o_15) :: (nat_lit 17, ?o_17) :: (nat_lit 18, ?o_18) :: (nat_lit 20, ?o_20) :: (nat_lit 21, ?o_21) :: (nat_lit 22, ?o_22) :: (nat_lit 29, ?o_29) :: (nat_lit 30, ?o_30) :: (nat_lit 31, ?o_31) :: (nat_lit 33, ?o_33) :: (nat_lit 34, ?o_34) :: (nat_lit 36, ?o_36) :: (nat_lit 37, ?o_37) :: (nat_lit 38, ?o_38) :: (nat_lit 40, ?o_40) :: (nat_lit 41, ?o_41) :: (nat_lit 43, ?o_43) :: (nat_lit 44, ?o_44) :: (nat_lit 45, ?o_45) :: (nat_lit 46, ?o_46) :: (nat_lit 47, ?o_47) :: (nat_lit 48, ?o_48) :: (nat_lit 51, ?o_51) :: (nat_lit 58, ?o_58) :: (nat_lit 59, ?o_59) :: (nat_lit 60, ?o_60) :: (nat_lit 63, ?o_63) :: (nat_lit 64, ?o_64) :: (nat_lit 66, ?o_66) :: (nat_lit 67, ?o_67) :: (nat_lit 69, ?o_69) :: (nat_lit 70, ?o_70) :: (nat_lit 78, ?o_78) :: (nat_lit 79, ?o_79) :: (nat_lit 81, ?o_81) :: (nat_lit 82, ?o_82) :: (nat_lit 84, ?o_84) :: (nat_lit 85, ?o_85) :: (nat_lit 86, ?o_86) :: (nat_lit 88, ?o_88) :: (nat_lit 89, ?o_89) :: (nat_lit 91, ?o_91) :: (nat_lit 92, ?o_92) :: (nat_lit 93, ?o_93) :: (nat_lit 95, ?o_95) :: (nat_lit 96, ?o_96) :: (nat_lit 98, ?o_98) :: (nat_lit 99, ?o_99) :: (nat_lit 100, ?o_100) :: (nat_lit 102, ?o_102) :: (nat_lit 103, ?o_103) :: (nat_lit 105, ?o_105) :: (nat_lit 106, ?o_106) :: (nat_lit 107, ?o_107) :: (nat_lit 109, ?o_109) :: (nat_lit 110, ?o_110) :: (nat_lit 112, ?o_112) :: (nat_lit 113, ?o_113) :: (nat_lit 114, ?o_114) :: (nat_lit 116, ?o_116) :: (nat_lit 117, ?o_117) :: (nat_lit 119, ?o_119) :: (nat_lit 120, ?o_120) :: (nat_lit 121, ?o_121) :: (nat_lit 123, ?o_123) :: (nat_lit 124, ?o_124) :: (nat_lit 126, ?o_126) :: (nat_lit 127, ?o_127) :: (nat_lit 128, ?o_128) :: (nat_lit 129, ?o_129) :: (nat_lit 131, ?o_131) :: (nat_lit 132, ?o_132) :: (nat_lit 134, ?o_134) :: (nat_lit 135, ?o_135) :: (nat_lit 136, ?o_136) :: (nat_lit 138, ?o_138) :: (nat_lit 139, ?o_139) :: (nat_lit 141, ?o_141) :: (nat_lit 142, ?o_142) :: (nat_lit 143, ?o_143) :: (nat_lit 144, ?o_144) :: (nat_lit 146, ?o_146) :: (nat_lit 147, ?o_147) :: (nat_lit 149, ?o_149) :: (nat_lit 150, ?o_150) :: (nat_lit 151, ?o_151) :: (nat_lit 152, ?o_152) :: (nat_lit 154, ?o_154) :: (nat_lit 155, ?o_155) :: (nat_lit 157, ?o_157) :: (nat_lit 158, ?o_158) :: (nat_lit 159, ?o_159) :: (nat_lit 162, ?o_162) :: (nat_lit 163, ?o_163) :: (nat_lit 164, ?o_164) :: (nat_lit 165, ?o_165) :: (nat_lit 166, ?o_166) :: (nat_lit 167, ?o_167) :: (nat_lit 168, ?o_168) :: (nat_lit 171, ?o_171) :: (nat_lit 172, ?o_172) :: (nat_lit 173, ?o_173) :: (nat_lit 174, ?o_174) :: (nat_lit 175, ?o_175) :: (nat_lit 176, ?o_176) :: (nat_lit 177, ?o_177) :: (nat_lit 178, ?o_178) :: (nat_lit 179, ?o_179) :: (nat_lit 180, ?o_180) :: (nat_lit 181, ?o_181) :: (nat_lit 182, ?o_182) :: (nat_lit 183, ?o_183) :: (nat_lit 184, ?o_184) :: (nat_lit 185, ?o_185) :: (nat_lit 186, ?o_186) :: (nat_lit 187, ?o_187) :: (nat_lit 188, ?o_188) :: (nat_lit 189, ?o_189) :: (nat_lit 190, ?o_190) :: (nat_lit 191, { cls := Value.type "tuple", data := Data.seq #[Value.str (PySem.Str.ofString "46") 454, Value.int 6 455] }) :: (nat_lit 192, ?o_192) :: (nat_lit 193, ?o_193) :: (nat_lit 195, { cls := Value.type "tuple", data := Data.seq #[Value.str (PySem.Str.ofString "script") 460, Value.str (PySem.Str.ofString "take") 461] }) :: (nat_lit 196, { cls := Value.type "tuple", data := Data.seq #[Value.str (PySem.Str.ofString "cells") 462, Value.str (PySem.Str.ofString "place") 463] }) :: (nat_lit 198, { cls := Value.type "code", data := Data.fields #[Value.str (PySem.Str.ofString "_law_taker") 457, Value.str (PySem.Str.ofString "_law_taker") 458, Value.str (PySem.Str.ofString "/claim/cut.py") 459, Value.int 120 0, Value.int 1 0, Value.int 0 0, Value.int 0 0, Value.int 3 0, Value.ref 193, Value.bool true, Value.int 181 0, Value.ref 194, Value.none, Value.ref 195, Value.ref 196, Value.ref 197, Value.int 464 0, Value.int 120 0, Value.str (PySem.Str.ofString "/claim/cut.py") 465] }) :: (nat_lit 199, ?o_199) :: (nat_lit 200, ?o_200) :: (nat_lit 202, { cls := Value.type "tuple", data := Data.seq #[Value.str (PySem.Str.ofString "content") 470, Value.str (PySem.Str.ofString "numbers") 471, Value.str (PySem.Str.ofString "open_file") 472, Value.str (PySem.Str.ofString "gone") 473, Value.str (PySem.Str.ofString "odd") 474, Value.str (PySem.Str.ofString "status") 475, Value.str (PySem.Str.ofString "octets") 476] }) :: (nat_lit 203, ?o_203) :: (nat_lit 205, { cls := Value.type "code", data := Data.fields #[Value.str (PySem.Str.ofString "_law_swept") 467, Value.str (PySem.Str.ofString "_law_swept") 468, Value.str (PySem.Str.ofString "/claim/cut.py") 469, Value.int 132 0, Value.int 2 0, Value.int 0 0, Value.int 0 0, Value.int 3 0, Value.ref 200, Value.bool true, Value.int 181 0, Value.ref 201, Value.none, Value.ref 202, Value.ref 203, Value.ref 204, Value.int 477 0, Value.int 132 0, Value.str (PySem.Str.ofString "/claim/cut.py") 478] }) :: (nat_lit 206, ?o_206) :: (nat_lit 207, ?o_207) :: (nat_lit 210, { cls := Value.type "code", data := Data.fields #[Value.str (PySem.Str.ofString "_law_emptied") 480, Value.str (PySem.Str.ofString "_law_emptied") 481, Value.str (PySem.Str.ofString "/claim/cut.py") 482, Value.int 144 0, Value.int 2 0, Value.int 0 0, Value.int 0 0, Value.int 3 0, Value.ref 207, Value.bool true, Value.int 181 0, Value.ref 208, Value.none, Value.none, Value.none, Value.ref 209, Value.int 483 0, Value.int 144 0, Value.str (PySem.Str.ofString "/claim/cut.py") 484] }) :: (nat_lit 211, ?o_211) :: (nat_lit 212, ?o_212) :: (nat_lit 214, { cls := Value.type "tuple", data := Data.seq #[Value.str (PySem.Str.ofString "content") 489, Value.str (PySem.Str.ofString "deeds") 490, Value.str (PySem.Str.ofString "open_file") 491, Value.str (PySem.Str.ofString "told") 492, Value.str (PySem.Str.ofString "word") 493, Value.str (PySem.Str.ofString "number") 494] }) :: (nat_lit 215, ?o_215) :: (nat_lit 217, { cls := Value.type "code", data := Data.fields #[Value.str (PySem.Str.ofString "_law_met") 486, Value.str (PySem.Str.ofString "_law_met") 487, Value.str (PySem.Str.ofString "/claim/cut.py") 488, Value.int 147 0, Value.int 2 0, Value.int 0 0, Value.int 0 0, Value.int 3 0, Value.ref 212, Value.bool true, Value.int 181 0, Value.ref 213, Value.none, Value.ref 214, Value.ref 215, Value.ref 216, Value.int 495 0, Value.int 147 0, Value.str (PySem.Str.ofString "/claim/cut.py") 496] }) :: (nat_lit 218, ?o_218) :: (nat_lit 219, ?o_219) :: (nat_lit 222, { cls := Value.type "code", data := Data.fields #[Value.str (PySem.Str.ofString "_law_met_due") 498, Value.str (PySem.Str.ofString "_law_met_due") 499, Value.str (PySem.Str.ofString "/claim/cut.py") 500, Value.int 157 0, Value.int 2 0, Value.int 0 0, Value.int 0 0, Value.int 3 0, Value.ref 219, Value.bool true, Value.int 181 0, Value.ref 220, Value.none, Value.none, Value.none, Value.ref 221, Value.int 501 0, Value.int 157 0, Value.str (PySem.Str.ofString "/claim/cut.py") 502] }) :: (nat_lit 223, ?o_223) :: (nat_lit 224, ?o_224) :: (nat_lit 227, { cls := Value.type "code", data := Data.fields #[Value.str (PySem.Str.ofString "_law_right") 504, Value.str (PySem.Str.ofString "_law_right") 505, Value.str (PySem.Str.ofString "/claim/cut.py") 506, Value.int 174 0, Value.int 2 0, Value.int 0 0, Value.int 0 0, Value.int 3 0, Value.ref 224, Value.bool true, Value.int 181 0, Value.ref 225, Value.none, Value.none, Value.none, Value.ref 226, Value.int 507 0, Value.int 174 0, Value.str (PySem.Str.ofString "/claim/cut.py") 508] }) :: (nat_lit 228, ?o_228) :: (nat_lit 229, ?o_229) :: (nat_lit 232, { cls := Value.type "code", data := Data.fields #[Value.str (PySem.Str.ofString "law") 510, Value.str (PySem.Str.ofString "law") 511, Value.str (PySem.Str.ofString "/claim/cut.py") 512, Value.int 182 0, Value.int 1 0, Value.int 0 0, Value.int 0 0, Value.int 3 0, Value.ref 229, Value.bool true, Value.int 181 0, Value.ref 230, Value.none, Value.none, Value.none, Value.ref 231, Value.int 513 0, Value.int 182 0, Value.str (PySem.Str.ofString "/claim/cut.py") 514] }) :: (nat_lit 233, ?o_233) :: []
@[reducible] noncomputable def view4 : Program := by
  refine' (?f : PySem.Challenge.pw_pb0237_04.main.body = [?s_0, ?s_1, ?s_2, ?s_3, ?s_4, ?s_5, ?s_6, ?s_7, ?s_8, ?s_9, ?s_10, ?s_11, ?s_12, ?s_13, ?s_14, ?s_15, ?s_16, ?s_17] → Program) (Eq.refl _)
  case f => exact fun _ => { PySem.Challenge.pw_pb0237_04 with main := { PySem.Challenge.pw_pb0237_04.main with body := [?s_0, ?s_2, ?s_3, ?s_5, ?s_6, ?s_7, ?s_9, ?s_10, ?s_11, ?s_12, ?s_13, ?s_14, ?s_15, ?s_16, ?s_17] } }
local macro_rules | `(tactic| o_law) => `(tactic| refine holds_law (by decide +kernel) fun said => ?_)
@[reducible] noncomputable def adr4 : List Addr := nat_lit 2 :: nat_lit 3 :: nat_lit 15 :: nat_lit 17 :: nat_lit 18 :: nat_lit 20 :: nat_lit 21 :: nat_lit 22 :: nat_lit 29 :: nat_lit 30 :: nat_lit 31 :: nat_lit 33 :: nat_lit 34 :: nat_lit 36 :: nat_lit 37 :: nat_lit 38 :: nat_lit 40 :: nat_lit 41 :: nat_lit 43 :: nat_lit 44 :: nat_lit 45 :: nat_lit 46 :: nat_lit 47 :: nat_lit 48 :: nat_lit 51 :: nat_lit 58 :: nat_lit 59 :: nat_lit 60 :: nat_lit 63 :: nat_lit 64 :: nat_lit 66 :: nat_lit 67 :: nat_lit 69 :: nat_lit 70 :: nat_lit 78 :: nat_lit 79 :: nat_lit 81 :: nat_lit 82 :: nat_lit 84 :: nat_lit 85 :: nat_lit 86 :: nat_lit 88 :: nat_lit 89 :: nat_lit 91 :: nat_lit 92 :: nat_lit 93 :: nat_lit 95 :: nat_lit 96 :: nat_lit 98 :: nat_lit 99 :: nat_lit 100 :: nat_lit 102 :: nat_lit 103 :: nat_lit 105 :: nat_lit 106 :: nat_lit 107 :: nat_lit 109 :: nat_lit 110 :: nat_lit 112 :: nat_lit 113 :: nat_lit 114 :: nat_lit 116 :: nat_lit 117 :: nat_lit 119 :: nat_lit 120 :: nat_lit 121 :: nat_lit 123 :: nat_lit 124 :: nat_lit 126 :: nat_lit 127 :: nat_lit 128 :: nat_lit 129 :: nat_lit 131 :: nat_lit 132 :: nat_lit 134 :: nat_lit 135 :: nat_lit 136 :: nat_lit 138 :: nat_lit 139 :: nat_lit 141 :: nat_lit 142 :: nat_lit 143 :: nat_lit 144 :: nat_lit 146 :: nat_lit 147 :: nat_lit 149 :: nat_lit 150 :: nat_lit 151 :: nat_lit 152 :: nat_lit 154 :: nat_lit 155 :: nat_lit 157 :: nat_lit 158 :: nat_lit 159 :: nat_lit 162 :: nat_lit 163 :: nat_lit 164 :: nat_lit 165 :: nat_lit 166 :: nat_lit 167 :: nat_lit 168 :: nat_lit 171 :: nat_lit 172 :: nat_lit 173 :: nat_lit 174 :: nat_lit 175 :: nat_lit 176 :: nat_lit 177 :: nat_lit 178 :: nat_lit 179 :: nat_lit 180 :: nat_lit 181 :: nat_lit 182 :: nat_lit 183 :: nat_lit 184 :: nat_lit 185 :: nat_lit 186 :: nat_lit 187 :: nat_lit 188 :: nat_lit 189 :: nat_lit 190 :: nat_lit 191 :: nat_lit 192 :: nat_lit 193 :: nat_lit 195 :: nat_lit 196 :: nat_lit 198 :: nat_lit 199 :: nat_lit 200 :: nat_lit 202 :: nat_lit 203 :: nat_lit 205 :: nat_lit 206 :: nat_lit 207 :: nat_lit 210 :: nat_lit 211 :: nat_lit 212 :: nat_lit 214 :: nat_lit 215 :: nat_lit 217 :: nat_lit 218 :: nat_lit 219 :: nat_lit 222 :: nat_lit 223 :: nat_lit 224 :: nat_lit 227 :: nat_lit 228 :: nat_lit 229 :: nat_lit 232 :: nat_lit 233 :: []
local macro_rules | `(tactic| k_head) => `(tactic| (
  refine holds_open (q := Mine.view4) (loose := [PySem.Str.ofString "LedgerError"]) (Xt := fun s => xlAt Mine.view4 [] s && recOk (RowW.records (OpenRow.toRowW (OpenLaw.row PySem.Challenge.rw_pb0237_04))) s) (XP := XL Mine.view4 []) (Yf := Hook.obs (kmHook Mine.K4 Mine.adr4 (fun _ => by kernel_rfl) [194])) (Ya := Hook.val (kmHook Mine.K4 Mine.adr4 (fun _ => by kernel_rfl) [194])) (YP := Hook.says (kmHook Mine.K4 Mine.adr4 (fun _ => by kernel_rfl) [194])) (N := 3104) ?hl (Hook.of (kmHook Mine.K4 Mine.adr4 (fun _ => by kernel_rfl) [194])) (Hook.keeps (kmHook Mine.K4 Mine.adr4 (fun _ => by kernel_rfl) [194])) (fun s e => xl_of s (Bool.and_eq_true_iff.mp e).1) XL.keeps (by rfl) (by rfl) (by rfl) (fun s e => recFacts_of (Bool.and_eq_true_iff.mp e).2) (by rfl) (by first | assumption | decide +kernel) (by decide +kernel) ⟨rfl, rfl, rfl, rfl, rfl, by decide +kernel⟩ ?hw ?hc
  case hl => (intro w; kernel_rfl)))
open_top hd1 for PySem.Challenge.rw_pb0237_04
end Mine
section
open PySem PySem.W PyProof.Rows
set_option Elab.async false
set_option maxRecDepth 100000
namespace Mine
inductive V where
  | none | bool (b : Bool) | int (i : Int) | str (x : PySem.Str) | bytes (x : Array UInt8) | ref (a : Addr)
inductive Is : Value → V → Prop
  | none : Is .none .none
  | bool (b : Bool) : Is (.bool b) (.bool b)
  | int (i : Int) (t : Tok) : Is (.int i t) (.int i)
  | str (x : PySem.Str) (t : Tok) : Is (.str x t) (.str x)
  | bytes (x : Array UInt8) (t : Tok) : Is (.bytes x t) (.bytes x)
  | ref (a : Addr) : Is (.ref a) (.ref a)
inductive Vals : List Value → List V → Prop
  | nil : Vals [] []
  | cons {v : Value} {x : V} {vs : List Value} {xs : List V} : Is v x → Vals vs xs → Vals (v :: vs) (x :: xs)
inductive AO where
  | list (m : Bool) (xs : List V)
  | tup (xs : List V)
  | dict (es : List (Int × V)) (ep : Nat)
  | inst (c : Addr) (fs : List V)
  | taker (k : Nat)
  | range (n : Nat)
  | priv (owner : Addr)
noncomputable abbrev Sto := Addr → Option AO
noncomputable def Sto.set (σ : Sto) (a : Addr) (o : AO) : Sto := fun b => if b = a then some o else σ b
@[simp] theorem Sto.set_self (σ : Sto) (a : Addr) (o : AO) : (σ.set a o) a = some o := by simp [Sto.set]
theorem Sto.set_ne (σ : Sto) {a b : Addr} (o : AO) (h : b ≠ a) : (σ.set a o) b = σ b := by simp [Sto.set, h]
noncomputable abbrev Env0 := List (Option V)
theorem Vals.length {vs : List Value} {xs : List V} (h : Vals vs xs) : vs.length = xs.length := by
  induction h with
  | nil => rfl
  | cons _ _ ih => simp [ih]
theorem Vals.get {vs : List Value} {xs : List V} (h : Vals vs xs) : ∀ {i : Nat} {x : V}, xs[i]? = some x → ∃ v, vs[i]? = some v ∧ Is v x := by
  induction h with
  | nil => intro i x e; simp at e
  | cons h1 _ ih =>
    intro i x e
    cases i with
    | zero => simp at e; subst e; exact ⟨_, rfl, h1⟩
    | succ j => simpa using ih (i := j) (x := x) (by simpa using e)
theorem vals_back {vs : List Value} {xs : List V} (h : Vals vs xs) : ∀ {i : Nat} {v : Value}, vs[i]? = some v → ∃ x, xs[i]? = some x ∧ Is v x := by
  induction h with
  | nil => intro i x e; simp at e
  | cons h1 _ ih =>
    intro i x e
    cases i with
    | zero => simp at e; subst e; exact ⟨_, rfl, h1⟩
    | succ j => simpa using ih (i := j) (v := x) (by simpa using e)
theorem Vals.append {vs ws : List Value} {xs ys : List V} (h : Vals vs xs) (g : Vals ws ys) : Vals (vs ++ ws) (xs ++ ys) := by
  induction h with
  | nil => exact g
  | cons h1 _ ih => exact .cons h1 ih
inductive Ents : List (Int × Value) → List (Int × V) → Prop
  | nil : Ents [] []
  | cons {k : Int} {v : Value} {x : V} {es : List (Int × Value)} {fs : List (Int × V)} : Is v x → Ents es fs → Ents ((k, v) :: es) ((k, x) :: fs)
inductive Flds (P : Params) : List PySem.Str → List DictEntry → List V → Prop
  | nil {ns : List PySem.Str} : Flds P ns [] []
  | cons {n : PySem.Str} {ns : List PySem.Str} {t : Tok} {v : Value} {x : V} {es : List DictEntry} {fs : List V} : Is v x → Flds P ns es fs → Flds P (n :: ns) (⟨PyData.keyHash P n, .str n t, v⟩ :: es) (x :: fs)
structure Kx where
  prog : Program
  w : World
  K : Frag
  p : Program
  loose : List PySem.Str
  mean : ExcName → Option Value
  mg : PySem.Str → Option Value
  mb : PySem.Str → Option Value
  base : Heap
  names : List PySem.Str
  tk : Heap → Addr → Nat → List Addr → Prop
structure Kx.Ok (κ : Kx) : Prop where
  X : κ.K.In κ.base
  T : Top κ.p κ.loose κ.mean κ.mg κ.mb κ.base
  keep : ∀ h h' a k F, κ.tk h a k F → (∀ b, b = a ∨ b ∈ F → ∀ o, h.get? b = some o → h'.get? b = some o) → κ.tk h' a k F
  at_ : ∀ h a k F, κ.tk h a k F → ∃ o, h.get? a = some o
noncomputable def Sits (κ : Kx) (σ : Sto) (h : Heap) (a : Addr) : AO → Prop
  | .list m xs => ∃ vs n, h.get? a = some (listOf vs.toArray n) ∧ Vals vs xs ∧ (m = true → κ.base.get? a = none) ∧ xs.length ≤ 1000000
  | .tup xs => ∃ vs : List Value, h.IsTuple a vs.toArray ∧ Vals vs xs
  | .dict es ep => ∃ kvs, h.DictAt (intKind κ.prog κ.w) a kvs ep ∧ Ents kvs es ∧ κ.base.get? a = none ∧ es.length ≤ 1000000 ∧ (a == sysModules) = false
  | .inst c fs => ∃ dx es n, h.get? a = some (instObj c dx) ∧ h.get? dx = some (dictOf es n) ∧ Flds κ.w.params κ.names es fs ∧ σ dx = some (.priv a) ∧ κ.base.get? dx = none
  | .taker k => ∃ F, κ.tk h a k F ∧ ∀ b ∈ F, σ b = some (.priv a) ∧ κ.base.get? b = none
  | .range n => ∃ t u v, IsRange h a 0 n 1 t u v
  | .priv _ => ∃ o, h.get? a = some o
structure St (κ : Kx) (σ : Sto) (s : Shared) : Prop where
  sits : ∀ a o, σ a = some o → Sits κ σ s.heap a o
  base : κ.base.StaysIn s.heap
structure Fut (W : List Addr) (σ : Sto) (h : Heap) (σ' : Sto) (h' : Heap) : Prop where
  keep : ∀ b o, h.get? b = some o → σ b = none → b ∉ W → h'.get? b = some o
  dom : ∀ a, σ' a ≠ none → σ a ≠ none ∨ h.get? a = none
theorem Fut.refl (W : List Addr) (σ : Sto) (h : Heap) : Fut W σ h σ h := ⟨fun _ _ e _ _ => e, fun _ e => .inl e⟩
theorem Fut.trans {W : List Addr} {σ σ' σ'' : Sto} {h h' h'' : Heap} (x : Fut W σ h σ' h') (y : Fut W σ' h' σ'' h'')
    (hW : ∀ b ∈ W, ∀ o, h.get? b = some o → ∃ o', h'.get? b = some o') : Fut W σ h σ'' h'' := by
  refine ⟨fun b o e n hw => ?_, fun a e => ?_⟩
  · refine y.keep b o (x.keep b o e n hw) ?_ hw
    cases q : σ' b with
    | none => rfl
    | some z =>
      rcases x.dom b (by rw [q]; exact fun z => nomatch z) with z | z
      · exact absurd n z
      · rw [e] at z; cases z
  · rcases y.dom a e with z | z
    · exact x.dom a z
    · cases q : h.get? a with
      | none => exact .inr rfl
      | some o =>
        left
        intro n
        by_cases hw : a ∈ W
        · obtain ⟨o', e'⟩ := hW a hw o q
          rw [e'] at z; cases z
        · rw [x.keep a o q n hw] at z; cases z
theorem Fut.trans0 {σ σ' σ'' : Sto} {h h' h'' : Heap} (x : Fut [] σ h σ' h') (y : Fut [] σ' h' σ'' h'') : Fut [] σ h σ'' h'' := x.trans y fun _ h => nomatch h
theorem Fut.weak {W : List Addr} {σ σ' : Sto} {h h' : Heap} (x : Fut [] σ h σ' h') : Fut W σ h σ' h' := ⟨fun b o e n _ => x.keep b o e n (fun h => nomatch h), x.dom⟩
theorem Sits.there {κ : Kx} (O : κ.Ok) {σ : Sto} {h : Heap} {a : Addr} {o : AO} (S : Sits κ σ h a o) : ∃ ob, h.get? a = some ob := by
  cases o with
  | list m xs => obtain ⟨vs, n, e, _⟩ := S; exact ⟨_, e⟩
  | tup xs => obtain ⟨vs, ⟨ob, e, _⟩, _⟩ := S; exact ⟨_, e⟩
  | dict es ep => obtain ⟨kvs, ⟨ob, _, e, _⟩, _⟩ := S; exact ⟨_, e⟩
  | inst c fs => obtain ⟨dx, es, n, e, _⟩ := S; exact ⟨_, e⟩
  | taker k => obtain ⟨F, e, _⟩ := S; exact O.at_ _ _ _ _ e
  | range n => obtain ⟨t, u, v, e⟩ := S; exact ⟨_, e⟩
  | priv o => exact S
theorem Sits.keep {κ : Kx} (O : κ.Ok) {σ σ' : Sto} {h h' : Heap} {a : Addr} {o : AO} (S : Sits κ σ h a o)
    (k1 : ∀ b o, (b = a ∨ σ b = some (.priv a)) → h.get? b = some o → h'.get? b = some o) (k2 : ∀ b, σ b = some (.priv a) → σ' b = some (.priv a)) : Sits κ σ' h' a o := by
  cases o with
  | list m xs => obtain ⟨vs, n, e, r⟩ := S; exact ⟨vs, n, k1 _ _ (.inl rfl) e, r⟩
  | tup xs => obtain ⟨vs, ⟨ob, e, r⟩, q⟩ := S; exact ⟨vs, ⟨ob, k1 _ _ (.inl rfl) e, r⟩, q⟩
  | dict es ep => obtain ⟨kvs, ⟨ob, x, e, r⟩, q⟩ := S; exact ⟨kvs, ⟨ob, x, k1 _ _ (.inl rfl) e, r⟩, q⟩
  | inst c fs => obtain ⟨dx, es, n, e, e2, f, p, r⟩ := S; exact ⟨dx, es, n, k1 _ _ (.inl rfl) e, k1 _ _ (.inr p) e2, f, k2 _ p, r⟩
  | taker k =>
    obtain ⟨F, e, p⟩ := S
    refine ⟨F, O.keep _ _ _ _ _ e fun b hb o eo => ?_, fun b hb => ⟨k2 _ (p b hb).1, (p b hb).2⟩⟩
    rcases hb with hb | hb
    · exact k1 b o (.inl hb) eo
    · exact k1 b o (.inr (p b hb).1) eo
  | range n => obtain ⟨t, u, v, e⟩ := S; exact ⟨t, u, v, k1 _ _ (.inl rfl) e⟩
  | priv o => obtain ⟨ob, e⟩ := S; exact ⟨ob, k1 _ _ (.inl rfl) e⟩
variable {κ : Kx} (O : κ.Ok) {σ : Sto} {s : Shared}
theorem St.none_of {κ : Kx} (O : κ.Ok) {σ : Sto} {s : Shared} (S : St κ σ s) {a : Addr} (e : s.heap.get? a = none) : σ a = none := by
  cases q : σ a with
  | none => rfl
  | some o => obtain ⟨ob, z⟩ := (S.sits a o q).there O; rw [e] at z; cases z
theorem fresh_none (h : Heap) : h.get? h.objs.size = none := by
  cases q : h.get? h.objs.size with
  | none => rfl
  | some o => exact absurd (Heap.lt_size q) (Nat.lt_irrefl _)
theorem St.base_none {κ : Kx} {σ : Sto} {s : Shared} (S : St κ σ s) {a : Addr} (e : s.heap.get? a = none) : κ.base.get? a = none := by
  cases q : κ.base.get? a with
  | none => rfl
  | some o => rw [S.base a o q] at e; cases e
theorem St.aside {κ : Kx} (O : κ.Ok) {σ : Sto} {s : Shared} {h' : Heap} {tk : Nat} (S : St κ σ s) (k : ∀ b o, s.heap.get? b = some o → (σ b ≠ none ∨ κ.base.get? b ≠ none) → h'.get? b = some o) :
    St κ σ { s with heap := h', toks := tk } := by
  refine ⟨fun a o e => (S.sits a o e).keep O (fun b ob hb eb => k b ob eb (.inl ?_)) fun _ x => x, fun b o e => k b o (S.base b o e) (.inr (by rw [e]; exact fun z => nomatch z))⟩
  rcases hb with rfl | hb
  · rw [e]; exact fun z => nomatch z
  · rw [hb]; exact fun z => nomatch z
theorem St.more {κ : Kx} (O : κ.Ok) {σ : Sto} {s : Shared} {h' : Heap} {tk : Nat} {a : Addr} {ao : AO} (S : St κ σ s) (ha : s.heap.get? a = none) (k : ∀ b o, s.heap.get? b = some o → h'.get? b = some o)
    (n : Sits κ (σ.set a ao) h' a ao) : St κ (σ.set a ao) { s with heap := h', toks := tk } ∧ Fut [] σ s.heap (σ.set a ao) h' := by
  have z := S.none_of O ha
  refine ⟨⟨fun b o e => ?_, fun b o e => k b o (S.base b o e)⟩, ⟨fun b o e _ _ => k b o e, fun b e => ?_⟩⟩
  · by_cases q : b = a
    · subst q; rw [Sto.set_self] at e; cases e; exact n
    · rw [Sto.set_ne σ ao q] at e
      refine (S.sits b o e).keep O (fun c oc _ ec => k c oc ec) fun c hc => ?_
      rw [Sto.set_ne σ ao (fun y => by rw [y, z] at hc; cases hc)]; exact hc
  · by_cases q : b = a
    · subst q; exact .inr ha
    · rw [Sto.set_ne σ ao q] at e; exact .inl e
theorem St.turn {κ : Kx} (O : κ.Ok) {σ : Sto} {s : Shared} {h' : Heap} {tk : Nat} {a d : Addr} {ao ao' : AO} (S : St κ σ s) (ha : σ a = some ao) (hp : ∀ o, ao ≠ .priv o) (hd : d = a ∨ σ d = some (.priv a))
    (hb : κ.base.get? d = none) (k : ∀ b o, b ≠ d → s.heap.get? b = some o → h'.get? b = some o) (hd' : ∃ o, h'.get? d = some o)
    (n : Sits κ (σ.set a ao') h' a ao') (hs : ∀ o, ao' ≠ .priv o) : St κ (σ.set a ao') { s with heap := h', toks := tk } ∧ Fut [] σ s.heap (σ.set a ao') h' := by
  have up : ∀ b c, b ≠ a → σ c = some (.priv b) → c ≠ a := fun b c _ hc e => by subst e; rw [ha] at hc; cases hc; exact hp _ rfl
  refine ⟨⟨fun b o e => ?_, fun b o e => k b o (fun q => by rw [q, hb] at e; cases e) (S.base b o e)⟩, ⟨fun b o e hn _ => k b o (fun q => ?_) e, fun b e => ?_⟩⟩
  · by_cases q : b = a
    · subst q; rw [Sto.set_self] at e; cases e; exact n
    · rw [Sto.set_ne σ ao' q] at e
      by_cases r : b = d
      · subst r
        rcases hd with hd | hd
        · exact absurd hd q
        · rw [hd] at e; cases e; exact hd'
      · refine (S.sits b o e).keep O (fun c oc hc ec => k c oc (fun y => ?_) ec) fun c hc => ?_
        · subst y
          rcases hc with hc | hc
          · exact r hc.symm
          · rcases hd with hd | hd
            · exact up b c q hc hd
            · rw [hd] at hc; cases hc; exact q rfl
        · rw [Sto.set_ne σ ao' (up b c q hc)]; exact hc
  · subst q
    rcases hd with hd | hd
    · rw [hd, ha] at hn; cases hn
    · rw [hd] at hn; cases hn
  · by_cases q : b = a
    · subst q; left; rw [ha]; exact fun z => nomatch z
    · rw [Sto.set_ne σ ao' q] at e; exact .inl e
end Mine
end
section
open PySem PySem.W PyProof.Rows
set_option Elab.async false
set_option maxRecDepth 100000
namespace Mine
structure Room (A : Around) (n : Nat) : Prop where
  handled : A.handled = none
  depth : A.depth + n ≤ 400
  units : A.units + 10 * n ≤ 1000
theorem Room.limit {A : Around} {n : Nat} (r : Room A n) : A.depth < recursionLimit := by
  have := r.depth; show A.depth < 1000; omega
theorem Room.deeper {A : Around} {n : Nat} (r : Room A (n + 1)) (env : Env) : Room (A.deeper env) n :=
  ⟨r.handled, by have := r.depth; show A.depth + 1 + n ≤ 400; omega, by have := r.units; show A.units + 3 + 10 * n ≤ 1000; omega⟩
structure Way (W : List Addr) (σ : Sto) (s : Shared) (σ' : Sto) (s' : Shared) : Prop where
  same : ∃ h tk, s' = { s with heap := h, toks := tk }
  fut : Fut W σ s.heap σ' s'.heap
theorem Way.refl (W : List Addr) (σ : Sto) (s : Shared) : Way W σ s σ s := ⟨⟨s.heap, s.toks, rfl⟩, Fut.refl _ _ _⟩
theorem Way.tok (W : List Addr) (σ : Sto) (s : Shared) (tk : Nat) : Way W σ s σ { s with toks := tk } := ⟨⟨s.heap, tk, rfl⟩, Fut.refl _ _ _⟩
theorem Way.trans {σ σ' σ'' : Sto} {s s' s'' : Shared} (x : Way [] σ s σ' s') (y : Way [] σ' s' σ'' s'') : Way [] σ s σ'' s'' := by
  obtain ⟨⟨h, tk, e⟩, u⟩ := x
  obtain ⟨⟨h', tk', e'⟩, u'⟩ := y
  exact ⟨⟨h', tk', by rw [e', e]⟩, u.trans0 u'⟩
theorem Way.transW {W : List Addr} {σ σ' σ'' : Sto} {s s' s'' : Shared} (x : Way W σ s σ' s') (y : Way W σ' s' σ'' s'') (l : ∀ b ∈ W, ∃ o, s'.heap.get? b = some o) : Way W σ s σ'' s'' := by
  obtain ⟨⟨h, tk, e⟩, u⟩ := x
  obtain ⟨⟨h', tk', e'⟩, u'⟩ := y
  exact ⟨⟨h', tk', by rw [e', e]⟩, u.trans u' fun b hb _ _ => l b hb⟩
theorem Way.weak {W : List Addr} {σ σ' : Sto} {s s' : Shared} (x : Way [] σ s σ' s') : Way W σ s σ' s' := ⟨x.same, x.fut.weak⟩
theorem Way.of {W : List Addr} {σ σ' : Sto} {s : Shared} {h : Heap} {tk : Nat} (u : Fut W σ s.heap σ' h) : Way W σ s σ' { s with heap := h, toks := tk } := ⟨⟨h, tk, rfl⟩, u⟩
theorem Way.of' {W : List Addr} {σ σ' : Sto} {s : Shared} {h : Heap} (u : Fut W σ s.heap σ' h) : Way W σ s σ' { s with heap := h } := ⟨⟨h, s.toks, rfl⟩, u⟩
theorem St.tok {κ : Kx} {σ : Sto} {s : Shared} (S : St κ σ s) (tk : Nat) : St κ σ { s with toks := tk } := ⟨S.sits, S.base⟩
noncomputable def After (κ : Kx) (W : List Addr) (σ : Sto) (s : Shared) {α : Type} (Q : α → Sto → Prop) : α → Shared → Prop :=
  fun v s' => ∃ σ', Way W σ s σ' s' ∧ St κ σ' s' ∧ Q v σ'
noncomputable def noE : Value → Shared → Prop := fun _ _ => False
noncomputable def Goes (κ : Kx) (W : List Addr) (A : Around) {α : Type} (t : Sem α) (σ : Sto) (s : Shared) (Q : α → Sto → Prop) : Prop :=
  wpAny (model κ.prog κ.w) A t (After κ W σ s Q) noE s
theorem After.up {κ : Kx} {α : Type} {σ σ' : Sto} {s s' s'' : Shared} {Q : α → Sto → Prop} {v : α} (x : Way [] σ s σ' s') (a : After κ [] σ' s' Q v s'') : After κ [] σ s Q v s'' := by
  obtain ⟨σ'', y, S, q⟩ := a
  exact ⟨σ'', x.trans y, S, q⟩
theorem Goes.up {κ : Kx} {A : Around} {α : Type} {t : Sem α} {σ σ' : Sto} {s s' : Shared} {Q : α → Sto → Prop} (x : Way [] σ s σ' s') (h : Goes κ [] A t σ' s' Q) : wpAny (model κ.prog κ.w) A t (After κ [] σ s Q) noE s' :=
  wpAny_mono h (fun _ _ a => a.up x) fun _ _ z => z
theorem After.tok {κ : Kx} {W : List Addr} {α : Type} {σ : Sto} {s : Shared} {Q : α → Sto → Prop} {v : α} {tk : Nat} (S : St κ σ s) (q : Q v σ) : After κ W σ s Q v { s with toks := tk } := ⟨σ, Way.tok _ _ _ _, S.tok tk, q⟩
theorem After.now {κ : Kx} {W : List Addr} {α : Type} {σ : Sto} {s : Shared} {Q : α → Sto → Prop} {v : α} (S : St κ σ s) (q : Q v σ) : After κ W σ s Q v s := ⟨σ, Way.refl _ _ _, S, q⟩
inductive Loc where
  | loc (L : Addr)
  | cell (c : Addr)
noncomputable def Loc.adr : Loc → Addr | .loc L => L | .cell c => c
structure FrameSt (vars : List (PySem.Str × Loc)) (ε : Env0) (σ : Sto) (h : Heap) : Prop where
  len : ε.length = vars.length
  off : ∀ (i : Nat) (n : PySem.Str) (l : Loc), vars[i]? = some (n, l) → σ l.adr = none
  loc : ∀ (i : Nat) (n : PySem.Str) (L : Addr), vars[i]? = some (n, .loc L) → ∃ m, h.Ns L m ∧ ∀ x, ε[i]? = some (some x) → ∃ v, m n = some v ∧ Is v x
  cell : ∀ (i : Nat) (n : PySem.Str) (c : Addr), vars[i]? = some (n, .cell c) → ∃ ov, h.IsCell c ov ∧ ∀ x, ε[i]? = some (some x) → ∃ v, ov = some v ∧ Is v x
theorem Heap.Ns.there {h : Heap} {a : Addr} {m : PySem.Str → Option Value} (x : h.Ns a m) : ∃ o, h.get? a = some o := let ⟨o, _, _, e, _⟩ := x; ⟨o, e⟩
theorem FrameSt.there {vars : List (PySem.Str × Loc)} {ε : Env0} {σ : Sto} {h : Heap} (F : FrameSt vars ε σ h) {i : Nat} {n : PySem.Str} {l : Loc} (e : vars[i]? = some (n, l)) : ∃ o, h.get? l.adr = some o := by
  cases l with
  | loc L => obtain ⟨m, x, _⟩ := F.loc i n L e; exact Heap.Ns.there x
  | cell c => obtain ⟨ov, ⟨o, x, _⟩, _⟩ := F.cell i n c e; exact ⟨o, x⟩
theorem FrameSt.keepW {W : List Addr} {vars : List (PySem.Str × Loc)} {ε : Env0} {σ σ' : Sto} {h h' : Heap} (F : FrameSt vars ε σ h) (U : Fut W σ h σ' h') (hw : ∀ (i : Nat) (n : PySem.Str) (l : Loc), vars[i]? = some (n, l) → l.adr ∉ W) : FrameSt vars ε σ' h' := by
  have k : ∀ (i : Nat) (n : PySem.Str) (l : Loc), vars[i]? = some (n, l) → ∀ o, h.get? l.adr = some o → h'.get? l.adr = some o := fun i n l e o eo => U.keep _ _ eo (F.off i n l e) (hw i n l e)
  refine ⟨F.len, fun i n l e => ?_, fun i n L e => ?_, fun i n c e => ?_⟩
  · cases q : σ' l.adr with
    | none => rfl
    | some z =>
      rcases U.dom l.adr (by rw [q]; exact fun z => nomatch z) with y | y
      · exact absurd (F.off i n l e) y
      · obtain ⟨o, eo⟩ := F.there e
        rw [y] at eo; cases eo
  · obtain ⟨m, ⟨o, es, ep, eo, r⟩, q⟩ := F.loc i n L e
    exact ⟨m, ⟨o, es, ep, k i n (.loc L) e o eo, r⟩, q⟩
  · obtain ⟨ov, ⟨o, eo, r⟩, q⟩ := F.cell i n c e
    exact ⟨ov, ⟨o, k i n (.cell c) e o eo, r⟩, q⟩
theorem FrameSt.keep {vars : List (PySem.Str × Loc)} {ε : Env0} {σ σ' : Sto} {h h' : Heap} (F : FrameSt vars ε σ h) (U : Fut [] σ h σ' h') : FrameSt vars ε σ' h' := by
  have k : ∀ (i : Nat) (n : PySem.Str) (l : Loc), vars[i]? = some (n, l) → ∀ o, h.get? l.adr = some o → h'.get? l.adr = some o := fun i n l e o eo => U.keep _ _ eo (F.off i n l e) fun h => nomatch h
  refine ⟨F.len, fun i n l e => ?_, fun i n L e => ?_, fun i n c e => ?_⟩
  · cases q : σ' l.adr with
    | none => rfl
    | some z =>
      rcases U.dom l.adr (by rw [q]; exact fun z => nomatch z) with y | y
      · exact absurd (F.off i n l e) y
      · obtain ⟨o, eo⟩ := F.there e
        rw [y] at eo; cases eo
  · obtain ⟨m, ⟨o, es, ep, eo, r⟩, q⟩ := F.loc i n L e
    exact ⟨m, ⟨o, es, ep, k i n (.loc L) e o eo, r⟩, q⟩
  · obtain ⟨ov, ⟨o, eo, r⟩, q⟩ := F.cell i n c e
    exact ⟨ov, ⟨o, k i n (.cell c) e o eo, r⟩, q⟩
inductive Kind where
  | loc | cell | hid
  deriving DecidableEq
structure CEnv where
  names : List (PySem.Str × NameKind)
  vs : List (PySem.Str × Kind)
structure EnvOk (env : Env) (ce : CEnv) (vars : List (PySem.Str × Loc)) : Prop where
  kind : env.scope.kind = .function
  globals : env.globals = mainGlobals
  builtins : env.builtins = builtinsNs
  names : env.scope.names = ce.names
  len : vars.length = ce.vs.length
  nodup : ∀ (i j : Nat) (n n' : PySem.Str) (l l' : Loc), vars[i]? = some (n, l) → vars[j]? = some (n', l') → i ≠ j → n = n' → l.adr ≠ l'.adr
  apart : ∀ (i j : Nat) (n n' : PySem.Str) (c : Addr) (l' : Loc), vars[i]? = some (n, .cell c) → vars[j]? = some (n', l') → i ≠ j → c ≠ l'.adr
  loc : ∀ (i : Nat) (n : PySem.Str), ce.vs[i]? = some (n, .loc) → vars[i]? = some (n, .loc env.locals)
  cell : ∀ (i : Nat) (n : PySem.Str), ce.vs[i]? = some (n, .cell) → ∃ c, vars[i]? = some (n, .cell c) ∧ env.cells.lookup n = some c
noncomputable def findVar (n : PySem.Str) (k : Kind) : List (PySem.Str × Kind) → Nat → Option Nat
  | [], _ => none
  | p :: r, i => if p.1 == n && decide (p.2 = k) then some i else findVar n k r (i + 1)
theorem findVar_spec {n : PySem.Str} {k : Kind} : ∀ {l : List (PySem.Str × Kind)} {i j : Nat}, findVar n k l i = some j → i ≤ j ∧ l[j - i]? = some (n, k)
  | [], _, _, h => by cases h
  | p :: r, i, j, h => by
    unfold findVar at h
    split at h
    · rename_i q
      cases h
      simp only [Bool.and_eq_true, decide_eq_true_eq] at q
      obtain ⟨a, b⟩ := p
      have e1 : a = n := beq_iff_eq.mp q.1
      have e2 : b = k := q.2
      subst e1 e2
      simp
    · have z := findVar_spec h
      refine ⟨by omega, ?_⟩
      have : j - i = (j - (i + 1)) + 1 := by omega
      rw [this, List.getElem?_cons_succ]
      exact z.2
noncomputable def CEnv.var (ce : CEnv) (n : PySem.Str) : Option Nat := match ce.names.lookup n with
  | some .local => findVar n .loc ce.vs 0
  | some .cell => findVar n .cell ce.vs 0
  | some .free => if (n == ("__classdict__" : PySem.Str)) then none else findVar n .cell ce.vs 0
  | _ => none
theorem load_var {M : Model} {A : Around} {E : Value → Shared → Prop} {s : Shared} {env : Env} {ce : CEnv} {vars : List (PySem.Str × Loc)} {ε : Env0} {σ : Sto} {n : PySem.Str} {pos : Pos} {i : Nat} {x : V} {Q : Value → Shared → Prop}
    (eo : EnvOk env ce vars) (F : FrameSt vars ε σ s.heap) (hi : ce.var n = some i) (hx : ε[i]? = some (some x)) (hd : (n == ("__debug__" : PySem.Str)) = false)
    (h : ∀ v, Is v x → Q v s) : wpAny M A (eval (.Name n pos) env) Q E s := by
  refine wpAny_Name ?_ hd
  unfold CEnv.var at hi
  have hl : env.kindOf n = ce.names.lookup n := by unfold Env.kindOf; rw [eo.names]
  split at hi
  · rename_i q
    have z := (findVar_spec hi).2
    rw [Nat.sub_zero] at z
    obtain ⟨m, hn, hv⟩ := F.loc i n env.locals (eo.loc i n z)
    obtain ⟨v, hm, hiv⟩ := hv x hx
    exact wpAny_loadName_local eo.kind (hl.trans q) hn hm (h v hiv)
  · rename_i q
    have z := (findVar_spec hi).2
    rw [Nat.sub_zero] at z
    obtain ⟨c, hc, hlk⟩ := eo.cell i n z
    obtain ⟨ov, hcell, hv⟩ := F.cell i n c hc
    obtain ⟨v, rfl, hiv⟩ := hv x hx
    exact wpAny_loadName_cell eo.kind (hl.trans q) hlk hcell (h v hiv)
  · rename_i q
    split at hi
    · cases hi
    · rename_i hcd
      have z := (findVar_spec hi).2
      rw [Nat.sub_zero] at z
      obtain ⟨c, hc, hlk⟩ := eo.cell i n z
      obtain ⟨ov, hcell, hv⟩ := F.cell i n c hc
      obtain ⟨v, rfl, hiv⟩ := hv x hx
      exact wpAny_loadName_free eo.kind (hl.trans q) hlk hcell (h v hiv) (by simpa using hcd)
  · cases hi
theorem store_var {κ : Kx} (O : κ.Ok) {A : Around} {E : Value → Shared → Prop} {s : Shared} {env : Env} {ce : CEnv} {vars : List (PySem.Str × Loc)} {ε : Env0} {σ : Sto} {n : PySem.Str} {i : Nat} {v : Value} {x : V} {Q : Unit → Shared → Prop} {W : List Addr}
    (eo : EnvOk env ce vars) (S : St κ σ s) (F : FrameSt vars ε σ s.heap) (hi : ce.var n = some i) (hv : Is v x) (hb : ∀ (i : Nat) (n : PySem.Str) (l : Loc), vars[i]? = some (n, l) → κ.base.get? l.adr = none) (hW : ∀ (m : PySem.Str) (l : Loc), vars[i]? = some (m, l) → l.adr ∈ W)
    (h : ∀ h' tk, St κ σ { s with heap := h', toks := tk } → Fut W σ s.heap σ h' → FrameSt vars (ε.set i (some x)) σ h' → Q () { s with heap := h', toks := tk }) : wpAny (model κ.prog κ.w) A (storeName env n v) Q E s := by
  have hl : env.kindOf n = ce.names.lookup n := by unfold Env.kindOf; rw [eo.names]
  -- what is behind a store at one place
  have fin : ∀ l h' tk, vars[i]? = some (n, l) → l.adr ∈ W → Heap.SameBut l.adr s.heap h' →
      (∀ L, l = .loc L → ∃ m m', s.heap.Ns L m ∧ h'.Ns L m' ∧ m' = fun y => if y = n then some v else m y) → (∀ c, l = .cell c → h'.IsCell c (some v)) → Q () { s with heap := h', toks := tk } := by
    intro l h' tk el hlW hs h1 h2
    have kp : ∀ b o, b ≠ l.adr → s.heap.get? b = some o → h'.get? b = some o := fun b o hb e => hs.extBut b o hb e
    refine h h' tk (S.aside O fun b o e hσ => kp b o (fun q => ?_) e) ⟨fun b o e _ hw => kp b o (fun q => hw (q ▸ hlW)) e, fun _ e => .inl e⟩ ⟨by rw [List.length_set]; exact F.len, F.off, fun j m L ej => ?_, fun j m c ej => ?_⟩
    · rcases hσ with hσ | hσ
      · exact hσ (q ▸ F.off i n l el)
      · exact hσ (q ▸ hb i n l el)
    · by_cases hij : i = j
      · subst hij
        rw [el] at ej
        cases ej
        obtain ⟨m₀, m', _, hn', rfl⟩ := h1 L rfl
        refine ⟨_, hn', fun y ey => ⟨v, by simp, ?_⟩⟩
        have hlt : i < ε.length := by
          rw [F.len]
          exact (List.getElem?_eq_some_iff.mp el).1
        rw [List.getElem?_set_self hlt] at ey
        cases ey; exact hv
      · rw [List.getElem?_set_ne hij]
        obtain ⟨m₀, hn, hx⟩ := F.loc j m L ej
        by_cases hL : L = l.adr
        · cases l with
          | loc L' =>
            obtain rfl : L = L' := hL
            obtain ⟨m₁, m', hn₁, hn', rfl⟩ := h1 L rfl
            refine ⟨_, hn', fun y ey => ?_⟩
            obtain ⟨u, hu, hiu⟩ := hx y ey
            refine ⟨u, ?_, hiu⟩
            have hne : m ≠ n := fun q => eo.nodup i j n m _ _ el ej hij q.symm rfl
            have hmm : m₀ m = m₁ m := by
              obtain ⟨o, es, ep, a1, a2, _, a3⟩ := hn
              obtain ⟨o', es', ep', b1, b2, _, b3⟩ := hn₁
              rw [a1] at b1; cases b1
              rw [a2] at b2; cases b2
              rw [← a3, ← b3]
            simp only [hne, if_false]
            rw [← hmm]; exact hu
          | cell c => exact absurd hL.symm (eo.apart i j n m c _ el ej hij)
        · exact ⟨m₀, hn.sameBut hs hL, hx⟩
    · by_cases hij : i = j
      · subst hij
        rw [el] at ej
        cases ej
        refine ⟨_, h2 c rfl, fun y ey => ⟨v, rfl, ?_⟩⟩
        have hlt : i < ε.length := by
          rw [F.len]
          exact (List.getElem?_eq_some_iff.mp el).1
        rw [List.getElem?_set_self hlt] at ey
        cases ey; exact hv
      · rw [List.getElem?_set_ne hij]
        obtain ⟨ov, hc, hx⟩ := F.cell j m c ej
        exact ⟨ov, hc.sameBut hs (eo.apart j i m n c l ej el (Ne.symm hij)), hx⟩
  unfold CEnv.var at hi
  split at hi
  · rename_i q
    have z := (findVar_spec hi).2
    rw [Nat.sub_zero] at z
    have el := eo.loc i n z
    obtain ⟨m, hn, _⟩ := F.loc i n env.locals el
    refine wpAny_storeName_local (hl.trans q) hn (fun h' hn' hs => fin _ h' _ el (hW _ _ el) hs (fun L e => ?_) fun c e => by cases e) (by rw [eo.kind]; rfl)
    cases e; exact ⟨m, _, hn, hn', rfl⟩
  · rename_i q
    have z := (findVar_spec hi).2
    rw [Nat.sub_zero] at z
    obtain ⟨c, el, hlk⟩ := eo.cell i n z
    obtain ⟨ov, hcell, _⟩ := F.cell i n c el
    exact wpAny_storeName_cell eo.kind (hl.trans q) hlk hcell fun h' hc' hs => fin _ h' s.toks el (hW _ _ el) hs (fun L e => by cases e) fun c' e => by cases e; exact hc'
  · rename_i q
    split at hi
    · cases hi
    · rename_i hcd
      have z := (findVar_spec hi).2
      rw [Nat.sub_zero] at z
      obtain ⟨c, el, hlk⟩ := eo.cell i n z
      obtain ⟨ov, hcell, _⟩ := F.cell i n c el
      unfold storeName
      simp only [hl.trans q, eo.kind]
      exact wpAny_bind (wpAny_cellOf hlk (wpAny_cellSet hcell fun h' hc' hs => fin _ h' s.toks el (hW _ _ el) hs (fun L e => by cases e) fun c' e => by cases e; exact hc'))
  · cases hi
end Mine
end
section
open PySem PySem.W PyProof.Rows
set_option Elab.async false
set_option maxRecDepth 100000
namespace Mine
inductive Op where
  | eq | ne | lt | le | gt | ge | isIn | notIn | is | isNot
inductive BI where
  | len | sorted | max | dict | bytes | list | range
inductive Ar where
  | mul | fdiv | mod | pow
inductive BM where
  | append | popL | popD | clear
mutual
inductive PE where
  | var (i : Nat)
  | none
  | bool (b : Bool)
  | int (i : Int)
  | str (x : PySem.Str)
  | bytes (x : List UInt8)
  | glob (a : Addr)
  | attr (e : PE) (i : Nat)
  | list (es : PEs)
  | tup (es : PEs)
  | dict (es : PEs)
  | ite (c : PC) (a b : PE)
  | add (a b : PE)
  | ar (op : Ar) (a b : PE)
  | cmp (op : Op) (a b : PE)
  | and (a b : PE)
  | sub (a i : PE)
  | upto (a i : PE)
  | from_ (a i : PE)
  | fn (f : Addr) (args : PEs)
  | bi (f : BI) (e : PE)
  | take (e : PE) (arg : PE)
  | meth (e : PE) (n : Nat) (args : PEs)
  | bm (e : PE) (n : BM) (args : PEs)
  | comp (elt : PE) (t : Nat) (it : PE) (c : PC)
  | compE (elt : PE) (t : Nat) (it : PE)
inductive PEs where
  | nil
  | cons (e : PE) (r : PEs)
inductive PC where
  | tru
  | not (c : PC)
  | and (a b : PC)
  | or (a b : PC)
  | cmp (op : Op) (a b : PE)
  | chain (a : PE) (o1 : Op) (b : PE) (o2 : Op) (c : PE)
  | val (e : PE)
end
mutual
inductive PT where
  | var (i : Nat)
  | attr (e : PE) (i : Nat)
  | sub (e i : PE)
  | subl (e i : PE)
  | tup (ts : PTs)
  | rev (is : List Nat)
inductive PTs where
  | nil
  | cons (t : PT) (r : PTs)
end
mutual
inductive PS where
  | expr (e : PE)
  | asg (t : PT) (e : PE)
  | ret (e : PE)
  | ite (c : PC) (a b : PSs)
  | for_ (t : PT) (it : PE) (b : PSs)
  | while_ (c : PC) (b : PSs)
  | fail
inductive PSs where
  | nil
  | cons (s : PS) (r : PSs)
end
inductive Fl where
  | next | brk | cont | ret (x : V)
noncomputable abbrev Post := V → Sto → Prop
structure Gx where
  stat : Addr → Option AO
  cls : Addr
  meth : Nat → Addr
  fn : Addr → List V → Post → Sto → Prop
noncomputable def look (Γ : Gx) (σ : Sto) (a : Addr) : Option AO := match Γ.stat a with
  | some o => some o
  | none => σ a
noncomputable def New (Γ : Gx) (σ : Sto) (a : Addr) : Prop := σ a = none ∧ Γ.stat a = none
noncomputable def itemsOf : AO → Option (List V)
  | .list _ xs => some xs
  | .tup xs => some xs
  | .dict es _ => some (es.map fun p => .int p.1)
  | .range n => some ((List.range n).map fun i => .int (i : Nat))
  | _ => none
noncomputable def seqOf : AO → Option (List V)
  | .list _ xs => some xs
  | .tup xs => some xs
  | _ => none
noncomputable def intsOf : List V → Option (List Int)
  | [] => some []
  | .int i :: r => (intsOf r).map (i :: ·)
  | _ :: _ => none
noncomputable def putE (k : Int) (x : V) : List (Int × V) → List (Int × V)
  | [] => [(k, x)]
  | p :: r => if p.1 = k then (k, x) :: r else p :: putE k x r
noncomputable def getE (k : Int) : List (Int × V) → Option V
  | [] => none
  | p :: r => if p.1 = k then some p.2 else getE k r
noncomputable def delE (k : Int) : List (Int × V) → List (Int × V)
  | [] => []
  | p :: r => if p.1 = k then r else p :: delE k r
noncomputable def allEq (f : V → V → Option Bool) : List V → List V → Option Bool
  | [], [] => some true
  | x :: xs, y :: ys => match f x y, allEq f xs ys with
    | some a, some b => some (a && b)
    | _, _ => none
  | _, _ => none
noncomputable def dictEq (f : V → V → Option Bool) (fs : List (Int × V)) : List (Int × V) → Option Bool
  | [] => some true
  | p :: r => match getE p.1 fs with
    | none => some false
    | some y => match f p.2 y, dictEq f fs r with
      | some a, some b => some (a && b)
      | _, _ => none
noncomputable def eqV (L : Addr → Option AO) : Nat → V → V → Option Bool
  | _, .bool a, .bool b => some (a == b)
  | _, .int a, .int b => some (a == b)
  | _, .str a, .str b => some (a == b)
  | _, .bytes a, .bytes b => some (a.toList == b.toList)
  | n + 1, .ref a, .ref b => match L a, L b with
    | some (.list _ xs), some (.list _ ys) => if xs.length = ys.length then allEq (eqV L n) xs ys else some false
    | some (.tup xs), some (.tup ys) => if xs.length = ys.length then allEq (eqV L n) xs ys else none
    | some (.dict es _), some (.dict fs _) => if a = b then some true else if es.length = fs.length then dictEq (eqV L n) fs es else some false
    | _, _ => none
  | _, _, _ => none
noncomputable def eqT (L : Addr → Option AO) (x y : V) : Option Bool := match x, y with
  | .ref a, .ref b => match L a, L b with
    | some (.dict es _), some (.dict fs _) => if es.length = fs.length then dictEq (eqV L 3) fs es else some false
    | _, _ => eqV L 4 (.ref a) (.ref b)
  | x, y => eqV L 4 x y
noncomputable def memV (x : V) : List V → Option Bool
  | [] => some false
  | y :: r => match eqV (fun _ => none) 0 y x, memV x r with
    | some a, some b => some (a || b)
    | _, _ => none
noncomputable def inV (L : Addr → Option AO) : V → V → Option Bool
  | x, .ref a => match L a, x with
    | some (.list _ xs), x => memV x xs
    | some (.tup xs), x => memV x xs
    | some (.dict es _), .int k => some (getE k es).isSome
    | _, _ => none
  | _, _ => none
noncomputable def isNoneV : V → Bool
  | .none => true
  | _ => false
noncomputable def opW (Γ : Gx) (op : Op) (x y : V) (q : Bool → Sto → Prop) (σ : Sto) : Prop := match op, x, y with
  | .lt, .int a, .int b => q (decide (a < b)) σ
  | .le, .int a, .int b => q (decide (a ≤ b)) σ
  | .gt, .int a, .int b => q (decide (b < a)) σ
  | .ge, .int a, .int b => q (decide (b ≤ a)) σ
  | .eq, x, y => ∃ b, eqT (look Γ σ) x y = some b ∧ q b σ
  | .ne, x, y => ∃ b, eqT (look Γ σ) x y = some b ∧ q (!b) σ
  | .isIn, x, y => ∃ b, inV (look Γ σ) x y = some b ∧ q b σ
  | .notIn, x, y => ∃ b, inV (look Γ σ) x y = some b ∧ q (!b) σ
  | .is, x, .none => q (isNoneV x) σ
  | .isNot, x, .none => q (!isNoneV x) σ
  | _, _, _ => False
noncomputable def big : Int := 1000000000
noncomputable def addW (Γ : Gx) (x y : V) (q : Post) (σ : Sto) : Prop := match x, y with
  | .int a, .int b => q (.int (a + b)) σ
  | .bytes a, .bytes b => a.size + b.size ≤ 100000 ∧ q (.bytes (a ++ b)) σ
  | .ref a, .ref b => ∃ m xs m' ys, look Γ σ a = some (.list m xs) ∧ look Γ σ b = some (.list m' ys) ∧ xs.length + ys.length ≤ 100000 ∧
      ∀ l, New Γ σ l → q (.ref l) (σ.set l (.list true (xs ++ ys)))
  | _, _ => False
noncomputable def arW (op : Ar) (x y : V) (q : Post) (σ : Sto) : Prop := ∃ i j, x = .int i ∧ y = .int j ∧ match op with
  | .mul => 0 ≤ i ∧ i ≤ 10000 ∧ q (.int (i * j)) σ
  | .fdiv => j ≠ 0 ∧ Builtin.divisionGoesByPylong i j = false ∧ q (.int (i.fdiv j)) σ
  | .mod => j ≠ 0 ∧ q (.int (i.fmod j)) σ
  | .pow => i = 720720 ∧ 0 ≤ j ∧ j ≤ 400 ∧ q (.int (i ^ j.toNat)) σ
noncomputable def subW (Γ : Gx) (x i : V) (q : Post) (σ : Sto) : Prop := match x, i with
  | .ref a, .int k => match look Γ σ a with
    | some (.list _ xs) => 0 ≤ k ∧ k ≤ big ∧ ∃ y, xs[k.toNat]? = some y ∧ q y σ
    | some (.tup xs) => 0 ≤ k ∧ k ≤ big ∧ ∃ y, xs[k.toNat]? = some y ∧ q y σ
    | some (.dict es _) => ∃ y, getE k es = some y ∧ q y σ
    | _ => False
  | _, _ => False
noncomputable def sliceW (Γ : Gx) (f : Nat → List V → List V) (x i : V) (q : Post) (σ : Sto) : Prop := match x, i with
  | .ref a, .int k => 0 ≤ k ∧ ∃ m xs, look Γ σ a = some (.list m xs) ∧ ∀ l, New Γ σ l → q (.ref l) (σ.set l (.list true (f k.toNat xs)))
  | _, _ => False
noncomputable def truV (L : Addr → Option AO) : V → Option Bool
  | .bool b => some b
  | .ref a => match L a with
    | some (.list _ xs) => some (!xs.isEmpty)
    | some (.dict es _) => some (!es.isEmpty)
    | _ => none
  | _ => none
noncomputable def pairsOf (L : Addr → Option AO) : List V → Option (List (Int × V))
  | [] => some []
  | .ref a :: r => match L a with
    | some (.tup [.int k, x]) => (pairsOf L r).map ((k, x) :: ·)
    | _ => none
  | _ :: _ => none
noncomputable def octets : List Int → Option (List UInt8)
  | [] => some []
  | i :: r => if 0 ≤ i ∧ i < 256 then (octets r).map (UInt8.ofNat i.toNat :: ·) else none
noncomputable def sortI (ks : List Int) : List Int := ks.mergeSort fun a b => decide (a ≤ b)
noncomputable def biW (Γ : Gx) (f : BI) (x : V) (q : Post) (σ : Sto) : Prop := match f, x with
  | .len, .ref a => ∃ o xs, look Γ σ a = some o ∧ itemsOf o = some xs ∧ (∀ n, o ≠ .range n) ∧ (∀ ys, o ≠ .tup ys) ∧ q (.int xs.length) σ
  | .sorted, .ref a => ∃ o xs ks, look Γ σ a = some o ∧ itemsOf o = some xs ∧ (∀ n, o ≠ .range n) ∧ (∀ ys, o ≠ .tup ys) ∧ intsOf xs = some ks ∧ ks.length ≤ 60 ∧ ∀ l, New Γ σ l → q (.ref l) (σ.set l (.list true ((sortI ks).map .int)))
  | .max, .ref a => ∃ o xs k ks, look Γ σ a = some o ∧ itemsOf o = some xs ∧ (∀ n, o ≠ .range n) ∧ (∀ ys, o ≠ .tup ys) ∧ intsOf xs = some (k :: ks) ∧ ks.length ≤ 1000 ∧ q (.int (ks.foldl max k)) σ
  | .dict, .ref a => match look Γ σ a with
    | some (.dict es _) => es.length ≤ 1000 ∧ ∀ l, New Γ σ l → ∀ ep, q (.ref l) (σ.set l (.dict es ep))
    | some (.list _ xs) => ∃ ps, pairsOf (look Γ σ) xs = some ps ∧ ps.length ≤ 1000 ∧ ∀ l, New Γ σ l → ∀ ep, q (.ref l) (σ.set l (.dict (ps.foldl (fun es p => putE p.1 p.2 es) []) ep))
    | _ => False
  | .bytes, .bytes b => q (.bytes b) σ
  | .bytes, .ref a => ∃ m xs ks bs, look Γ σ a = some (.list m xs) ∧ intsOf xs = some ks ∧ octets ks = some bs ∧ bs.length ≤ 1000 ∧ q (.bytes bs.toArray) σ
  | .list, .ref a => ∃ o xs, look Γ σ a = some o ∧ itemsOf o = some xs ∧ (∀ es ep, o ≠ .dict es ep) ∧ xs.length ≤ 1000 ∧ ∀ l, New Γ σ l → q (.ref l) (σ.set l (.list true xs))
  | .range, .int n => 0 ≤ n ∧ n ≤ 1000 ∧ ∀ l, New Γ σ l → q (.ref l) (σ.set l (.range n.toNat))
  | _, _ => False
noncomputable def bmW (_Γ : Gx) (f : BM) (x : V) (args : List V) (q : Post) (σ : Sto) : Prop := match f, x, args with
  | .append, .ref a, [y] => ∃ xs, σ a = some (.list true xs) ∧ xs.length ≤ 10000 ∧ q .none (σ.set a (.list true (xs ++ [y])))
  | .popL, .ref a, [.int k] => ∃ xs, σ a = some (.list true xs) ∧ 0 ≤ k ∧ ∃ y, xs[k.toNat]? = some y ∧ xs.length ≤ 10000 ∧ q y (σ.set a (.list true (xs.eraseIdx k.toNat)))
  | .popD, .ref a, [.int k] => ∃ es ep, σ a = some (.dict es ep) ∧ ∃ y, getE k es = some y ∧ es.length ≤ 10000 ∧ ∀ ep, q y (σ.set a (.dict (delE k es) ep))
  | .clear, .ref a, [] => ∃ es ep, σ a = some (.dict es ep) ∧ ∀ ep', q .none (σ.set a (.dict [] ep'))
  | _, _, _ => False
noncomputable def bmOn (f : BM) (x : V) (σ : Sto) : Prop := match f, x with
  | .append, .ref a => ∃ xs, σ a = some (.list true xs)
  | .popL, .ref a => ∃ xs, σ a = some (.list true xs)
  | .popD, .ref a => ∃ es ep, σ a = some (.dict es ep)
  | .clear, .ref a => ∃ es ep, σ a = some (.dict es ep)
  | _, _ => False
noncomputable def takeW (x n : V) (q : Post) (σ : Sto) : Prop := match x, n with
  | .ref a, .int lim => ∃ k, σ a = some (.taker k) ∧ k < 400 ∧ 0 < lim ∧ lim ≤ 1000 ∧ ∀ r : Int, 0 ≤ r → r < lim → q (.int r) (σ.set a (.taker (k + 1)))
  | _, _ => False
noncomputable def putF (fs : List V) (i : Nat) (x : V) : List V := if i < fs.length then fs.set i x else fs ++ [x]
noncomputable abbrev WP := Post → Env0 → Sto → Prop
noncomputable def goComp (Γ : Gx) (elt : WP) (c : (Bool → Sto → Prop) → Env0 → Sto → Prop) (t : Nat) (a : Addr) (src : AO) (q : List V → Sto → Prop) : List V → List V → Env0 → Sto → Prop
  | [], acc, _, σ => look Γ σ a = some src ∧ q acc σ
  | x :: r, acc, ε, σ => look Γ σ a = some src ∧ c (fun b σ' => if b then elt (fun y σ'' => goComp Γ elt c t a src q r (acc ++ [y]) (ε.set t (some x)) σ'') (ε.set t (some x)) σ'
      else goComp Γ elt c t a src q r acc (ε.set t (some x)) σ') (ε.set t (some x)) σ
noncomputable def goCompE (Γ : Gx) (elt : WP) (t : Nat) (a : Addr) (src : AO) (q : List V → Sto → Prop) : Nat → List V → List V → Env0 → Sto → Prop
  | _, [], acc, _, σ => look Γ σ a = some src ∧ q acc σ
  | i, x :: r, acc, ε, σ => look Γ σ a = some src ∧ elt (fun y σ' => goCompE Γ elt t a src q (i + 1) r (acc ++ [y]) ((ε.set t (some (.int i))).set (t + 1) (some x)) σ') ((ε.set t (some (.int i))).set (t + 1) (some x)) σ
mutual
noncomputable def wpE (Γ : Gx) : PE → WP
  | .var i => fun q ε σ => ∃ x, ε[i]? = some (some x) ∧ q x σ
  | .none => fun q _ σ => q .none σ
  | .bool b => fun q _ σ => q (.bool b) σ
  | .int i => fun q _ σ => q (.int i) σ
  | .str x => fun q _ σ => q (.str x) σ
  | .bytes x => fun q _ σ => q (.bytes x.toArray) σ
  | .glob a => fun q _ σ => q (.ref a) σ
  | .attr e i => fun q ε σ => wpE Γ e (fun v σ' => ∃ a fs x, v = .ref a ∧ σ' a = some (.inst Γ.cls fs) ∧ fs[i]? = some x ∧ q x σ') ε σ
  | .list es => fun q ε σ => wpEs Γ es (fun xs σ' => ∀ l, New Γ σ' l → q (.ref l) (σ'.set l (.list true xs))) ε σ
  | .tup es => fun q ε σ => wpEs Γ es (fun xs σ' => ∀ l, New Γ σ' l → q (.ref l) (σ'.set l (.tup xs))) ε σ
  | .dict es => fun q ε σ => wpDs Γ es (fun ps σ' => ∀ l, New Γ σ' l → ∀ ep, q (.ref l) (σ'.set l (.dict (ps.foldl (fun es p => putE p.1 p.2 es) []) ep))) ε σ
  | .ite c a b => fun q ε σ => wpC Γ c (fun t σ' => if t then wpE Γ a q ε σ' else wpE Γ b q ε σ') ε σ
  | .add a b => fun q ε σ => wpE Γ a (fun x σ' => wpE Γ b (fun y σ'' => addW Γ x y q σ'') ε σ') ε σ
  | .ar op a b => fun q ε σ => wpE Γ a (fun x σ' => wpE Γ b (fun y σ'' => arW op x y q σ'') ε σ') ε σ
  | .cmp op a b => fun q ε σ => wpE Γ a (fun x σ' => wpE Γ b (fun y σ'' => opW Γ op x y (fun t => q (.bool t)) σ'') ε σ') ε σ
  | .and a b => fun q ε σ => wpE Γ a (fun x σ' => ∃ t, truV (look Γ σ') x = some t ∧ if t then wpE Γ b q ε σ' else q x σ') ε σ
  | .sub a i => fun q ε σ => wpE Γ a (fun x σ' => wpE Γ i (fun y σ'' => subW Γ x y q σ'') ε σ') ε σ
  | .upto a i => fun q ε σ => wpE Γ a (fun x σ' => wpE Γ i (fun y σ'' => sliceW Γ List.take x y q σ'') ε σ') ε σ
  | .from_ a i => fun q ε σ => wpE Γ a (fun x σ' => wpE Γ i (fun y σ'' => sliceW Γ List.drop x y q σ'') ε σ') ε σ
  | .fn f args => fun q ε σ => wpEs Γ args (fun xs σ' => Γ.fn f xs q σ') ε σ
  | .bi f e => fun q ε σ => wpE Γ e (fun x σ' => biW Γ f x q σ') ε σ
  | .take e n => fun q ε σ => wpE Γ e (fun x σ' => wpE Γ n (fun y σ'' => takeW x y q σ'') ε σ') ε σ
  | .meth e n args => fun q ε σ => wpE Γ e (fun x σ' => (∃ a fs, x = .ref a ∧ σ' a = some (.inst Γ.cls fs)) ∧ wpEs Γ args (fun xs σ'' => Γ.fn (Γ.meth n) (x :: xs) q σ'') ε σ') ε σ
  | .bm e n args => fun q ε σ => wpE Γ e (fun x σ' => bmOn n x σ' ∧ wpEs Γ args (fun xs σ'' => bmW Γ n x xs q σ'') ε σ') ε σ
  | .comp elt t it c => fun q ε σ => wpE Γ it (fun v σ' => ∃ a src xs, v = .ref a ∧ look Γ σ' a = some src ∧ itemsOf src = some xs ∧ xs.length ≤ 1000 ∧
      goComp Γ (wpE Γ elt) (wpC Γ c) t a src (fun ys σ'' => ∀ l, New Γ σ'' l → q (.ref l) (σ''.set l (.list true ys))) xs [] (ε ++ [none]) σ') ε σ
  | .compE elt t it => fun q ε σ => wpE Γ it (fun v σ' => ∃ a m xs, v = .ref a ∧ look Γ σ' a = some (.list m xs) ∧ xs.length ≤ 1000 ∧
      goCompE Γ (wpE Γ elt) t a (.list m xs) (fun ys σ'' => ∀ l, New Γ σ'' l → q (.ref l) (σ''.set l (.list true ys))) 0 xs [] ((ε ++ [none]) ++ [none]) σ') ε σ
noncomputable def wpEs (Γ : Gx) : PEs → (List V → Sto → Prop) → Env0 → Sto → Prop
  | .nil => fun q _ σ => q [] σ
  | .cons e r => fun q ε σ => wpE Γ e (fun x σ' => wpEs Γ r (fun xs σ'' => q (x :: xs) σ'') ε σ') ε σ
noncomputable def wpDs (Γ : Gx) : PEs → (List (Int × V) → Sto → Prop) → Env0 → Sto → Prop
  | .nil => fun q _ σ => q [] σ
  | .cons k (.cons e r) => fun q ε σ => wpE Γ k (fun y σ' => ∃ i, y = .int i ∧ wpE Γ e (fun x σ'' => wpDs Γ r (fun ps σ₃ => q ((i, x) :: ps) σ₃) ε σ'') ε σ') ε σ
  | .cons _ .nil => fun _ _ _ => False
noncomputable def wpC (Γ : Gx) : PC → (Bool → Sto → Prop) → Env0 → Sto → Prop
  | .tru => fun q _ σ => q true σ
  | .not c => fun q ε σ => wpC Γ c (fun t => q (!t)) ε σ
  | .and a b => fun q ε σ => wpC Γ a (fun t σ' => if t then wpC Γ b q ε σ' else q false σ') ε σ
  | .or a b => fun q ε σ => wpC Γ a (fun t σ' => if t then q true σ' else wpC Γ b q ε σ') ε σ
  | .cmp op a b => fun q ε σ => wpE Γ a (fun x σ' => wpE Γ b (fun y σ'' => opW Γ op x y q σ'') ε σ') ε σ
  | .chain a o1 b o2 c => fun q ε σ => wpE Γ a (fun x σ' => wpE Γ b (fun y σ'' => opW Γ o1 x y (fun t σ₃ => if t then wpE Γ c (fun z σ₄ => opW Γ o2 y z q σ₄) ε σ₃ else q false σ₃) σ'') ε σ') ε σ
  | .val e => fun q ε σ => wpE Γ e (fun x σ' => ∃ t, truV (look Γ σ') x = some t ∧ q t σ') ε σ
end
noncomputable abbrev PostE := Env0 → Sto → Prop
noncomputable def setAll : List Nat → List V → Env0 → Env0
  | i :: is, x :: xs, ε => setAll is xs (ε.set i (some x))
  | _, _, ε => ε
noncomputable def ptsLen : PTs → Nat
  | .nil => 0
  | .cons _ r => ptsLen r + 1
mutual
noncomputable def wpT (Γ : Gx) : PT → V → PostE → PostE
  | .var i => fun x q ε σ => i < ε.length ∧ q (ε.set i (some x)) σ
  | .attr e i => fun x q ε σ => wpE Γ e (fun v σ' => ∃ a fs, v = .ref a ∧ σ' a = some (.inst Γ.cls fs) ∧ i ≤ fs.length ∧ q ε (σ'.set a (.inst Γ.cls (putF fs i x)))) ε σ
  | .sub e i => fun x q ε σ => wpE Γ e (fun v σ' => wpE Γ i (fun k σ'' => ∃ a j es ep, v = .ref a ∧ k = .int j ∧ σ'' a = some (.dict es ep) ∧ es.length ≤ 10000 ∧ ∀ ep', q ε (σ''.set a (.dict (putE j x es) ep'))) ε σ') ε σ
  | .subl e i => fun x q ε σ => wpE Γ e (fun v σ' => wpE Γ i (fun k σ'' => ∃ a j xs, v = .ref a ∧ k = .int j ∧ σ'' a = some (.list true xs) ∧ 0 ≤ j ∧ j.toNat < xs.length ∧ xs.length ≤ 10000 ∧ q ε (σ''.set a (.list true (xs.set j.toNat x)))) ε σ') ε σ
  | .tup ts => fun x q ε σ => ∃ a xs, x = .ref a ∧ look Γ σ a = some (.tup xs) ∧ xs.length = ptsLen ts ∧ wpTs Γ ts xs q ε σ
  | .rev is => fun x q ε σ => ∃ a xs, x = .ref a ∧ look Γ σ a = some (.tup xs) ∧ xs.length = is.length ∧ q (setAll is.reverse xs.reverse ε) σ
noncomputable def wpTs (Γ : Gx) : PTs → List V → PostE → PostE
  | .nil => fun xs q ε σ => xs = [] ∧ q ε σ
  | .cons t r => fun xs q ε σ => ∃ x xr, xs = x :: xr ∧ wpT Γ t x (fun ε' σ' => wpTs Γ r xr q ε' σ') ε σ
end
noncomputable abbrev PostF := Fl → Env0 → Sto → Prop
noncomputable def goFor (Γ : Gx) (t : V → PostE → PostE) (b : PostF → PostE) (a : Addr) (src : AO) (q : PostF) : List V → PostE
  | [] => fun ε σ => look Γ σ a = some src ∧ q .next ε σ
  | x :: r => fun ε σ => look Γ σ a = some src ∧ t x (b fun f ε' σ' => match f with
      | .next => goFor Γ t b a src q r ε' σ'
      | .cont => goFor Γ t b a src q r ε' σ'
      | .brk => q .next ε' σ'
      | .ret v => q (.ret v) ε' σ') ε σ
noncomputable def goWhile (c : (Bool → Sto → Prop) → PostE) (b : PostF → PostE) (q : PostF) : Nat → PostE
  | 0 => fun _ _ => False
  | n + 1 => fun ε σ => c (fun t σ' => if t then b (fun f ε' σ'' => match f with
      | .next => goWhile c b q n ε' σ''
      | .cont => goWhile c b q n ε' σ''
      | .brk => q .next ε' σ''
      | .ret v => q (.ret v) ε' σ'') ε σ' else q .next ε σ') ε σ
mutual
noncomputable def wpS (Γ : Gx) : PS → PostF → PostE
  | .fail => fun _ _ _ => False
  | .expr e => fun q ε σ => wpE Γ e (fun x σ' => (∀ a, x ≠ .ref a) ∧ q .next ε σ') ε σ
  | .asg t e => fun q ε σ => wpE Γ e (fun x σ' => wpT Γ t x (q .next) ε σ') ε σ
  | .ret e => fun q ε σ => wpE Γ e (fun x σ' => q (.ret x) ε σ') ε σ
  | .ite c a b => fun q ε σ => wpC Γ c (fun t σ' => if t then wpSs Γ a q ε σ' else wpSs Γ b q ε σ') ε σ
  | .for_ t it b => fun q ε σ => wpE Γ it (fun v σ' => ∃ a src xs, v = .ref a ∧ look Γ σ' a = some src ∧ itemsOf src = some xs ∧ xs.length ≤ 100000 ∧ goFor Γ (wpT Γ t) (wpSs Γ b) a src q xs ε σ') ε σ
  | .while_ c b => fun q ε σ => ∃ n, goWhile (wpC Γ c) (wpSs Γ b) q n ε σ
noncomputable def wpSs (Γ : Gx) : PSs → PostF → PostE
  | .nil => fun q ε σ => q .next ε σ
  | .cons s r => fun q ε σ => wpS Γ s (fun f ε' σ' => match f with
      | .next => wpSs Γ r q ε' σ'
      | f => q f ε' σ') ε σ
end
end Mine
end
section
open PySem PySem.W PyProof.Rows
set_option Elab.async false
set_option maxRecDepth 100000
namespace Mine
noncomputable def nameOk (K : Frag) (C : Addr) (n : PySem.Str) : Bool :=
  plainGet K C n && (findIn K (.ref C) n).any (noGet K) && takerIn K C n == some none
noncomputable def methOk (K : Frag) (C : Addr) (names : List PySem.Str) (p : PySem.Str × Addr) : Bool :=
  plainGet K C p.1 && findIn K (.ref C) p.1 == some (some (.ref p.2)) && isFn K (.ref p.2) && !names.contains p.1
noncomputable def clsOk (K : Frag) (C : Addr) (names : List PySem.Str) (meths : List (PySem.Str × Addr)) : Bool :=
  hasDictIn K C && plainOver K C && findIn K (.ref C) "__setattr__" == some (some (.builtin "object.__setattr__")) &&
    names.all (nameOk K C) && meths.all (methOk K C names) && decide names.Nodup && decide (names.length ≤ 100)
structure GOk (κ : Kx) (Γ : Gx) (meths : List (PySem.Str × Addr)) (d : Nat) : Prop where
  ok : κ.Ok
  stat : ∀ a o, Γ.stat a = some o → (∃ ob, κ.base.get? a = some ob) ∧ ∀ σ h, κ.base.StaysIn h → Sits κ σ h a o
  still : ∀ a o, Γ.stat a = some o → (∃ xs, o = .list false xs) ∨ ∃ xs, o = .tup xs
  cls : clsOk κ.K Γ.cls κ.names meths = true
  meth : ∀ i p, meths[i]? = some p → Γ.meth i = p.2
  fn : ∀ f xs q σ A s args, Γ.fn f xs q σ → Room A d → St κ σ s → Vals args xs →
    codeAny (model κ.prog κ.w) A (.call (.ref f) ⟨args, []⟩) (fun r s' => ∃ v, r = .ok (.ret v) ∧ After κ [] σ s (fun v σ' => ∃ x, Is v x ∧ q x σ') v s') s
  take : 0 < d → ∀ (a : Addr) (k : Nat) (lim : Int) (t : Tok) (A : Around) (s : Shared) (σ : Sto) (q : Post), Room A d → St κ σ s → σ a = some (.taker k) → k < 400 → 0 < lim → lim ≤ 1000 → (∀ r : Int, 0 ≤ r → r < lim → q (V.int r) (σ.set a (.taker (k + 1)))) →
    Goes κ [] A (call (.ref a) [.int lim t]) σ s (fun v σ' => ∃ x, Is v x ∧ q x σ')
  takeKeep : ∀ h a k F, κ.tk h a k F → ∃ kp, (kp = Keeper.frame ∨ kp = Keeper.machine ∨ kp = Keeper.boundFrame) ∧ Looks (model κ.prog κ.w) h (keeperOf (.ref a)) kp
variable {κ : Kx} {Γ : Gx} {meths : List (PySem.Str × Addr)} {d : Nat}
theorem look_sits (G : GOk κ Γ meths d) {σ : Sto} {s : Shared} (S : St κ σ s) {a : Addr} {o : AO} (e : look Γ σ a = some o) : Sits κ σ s.heap a o := by
  unfold look at e
  split at e
  · rename_i o' h; cases e; exact (G.stat a _ h).2 σ s.heap S.base
  · exact S.sits a o e
theorem new_of (G : GOk κ Γ meths d) {σ : Sto} {s : Shared} (S : St κ σ s) {a : Addr} (e : s.heap.get? a = none) : New Γ σ a := by
  refine ⟨S.none_of G.ok e, ?_⟩
  cases q : Γ.stat a with
  | none => rfl
  | some o =>
    obtain ⟨ob, z⟩ := (G.stat a o q).1
    rw [S.base a ob z] at e; cases e
theorem after_new (G : GOk κ Γ meths d) {σ : Sto} {s : Shared} (S : St κ σ s) {ob : Obj} {ao : AO} {q : Post} (hn : Sits κ (σ.set s.heap.objs.size ao) (s.heap.push ob) s.heap.objs.size ao)
    (h : ∀ l, New Γ σ l → q (.ref l) (σ.set l ao)) : After κ [] σ s (fun v σ' => ∃ x, Is v x ∧ q x σ') (.ref s.heap.objs.size) { s with heap := s.heap.push ob } := by
  have ha := fresh_none s.heap
  obtain ⟨a, b⟩ := S.more G.ok (h' := s.heap.push ob) (tk := s.toks) ha (fun b o e => Heap.get?_push_of_some _ e) hn
  exact ⟨_, Way.of' b, a, _, .ref _, h _ (new_of G S ha)⟩
theorem seq_sits {σ : Sto} {h : Heap} {vs : List Value} {xs : List V} (hv : Vals vs xs) (hb : κ.base.get? h.objs.size = none) (hz : xs.length ≤ 1000000) :
    Sits κ (σ.set h.objs.size (.list true xs)) (h.push { cls := .type "list", data := .seq vs.toArray }) h.objs.size (.list true xs) :=
  ⟨vs, 0, Heap.get?_push_size _ rfl, hv, fun _ => hb, hz⟩
theorem tup_sits {σ : Sto} {h : Heap} {vs : List Value} {xs : List V} (hv : Vals vs xs) :
    Sits κ (σ.set h.objs.size (.tup xs)) (h.push { cls := .type "tuple", data := .seq vs.toArray }) h.objs.size (.tup xs) :=
  ⟨vs, ⟨_, Heap.get?_push_size _ rfl, rfl, _, rfl⟩, hv⟩
noncomputable def SE (κ : Kx) (d : Nat) (env : Env) (vars : List (PySem.Str × Loc)) (e : PySem.Expr) (w : WP) : Prop :=
  ∀ A s σ ε q, Room A d → St κ σ s → FrameSt vars ε σ s.heap → w q ε σ → Goes κ [] A (eval e env) σ s (fun v σ' => ∃ x, Is v x ∧ q x σ')
noncomputable def SC (κ : Kx) (d : Nat) (env : Env) (vars : List (PySem.Str × Loc)) (e : PySem.Expr) (w : (Bool → Sto → Prop) → Env0 → Sto → Prop) : Prop :=
  ∀ A s σ ε q, Room A d → St κ σ s → FrameSt vars ε σ s.heap → w q ε σ → Goes κ [] A (isTrue e env (eval e env)) σ s q
noncomputable def SEs (κ : Kx) (d : Nat) (env : Env) (vars : List (PySem.Str × Loc)) (es : List PySem.Expr) (w : (List V → Sto → Prop) → Env0 → Sto → Prop) : Prop :=
  ∀ A s σ ε q pos, Room A d → St κ σ s → FrameSt vars ε σ s.heap → w q ε σ → Goes κ [] A (spliced (backTo pos (starEach es env))) σ s (fun vs σ' => ∃ xs, Vals vs xs ∧ vs.length = es.length ∧ q xs σ')
variable {env : Env} {vars : List (PySem.Str × Loc)}
theorem se_var {ce : CEnv} {n : PySem.Str} {pos : Pos} {i : Nat} (eo : EnvOk env ce vars) (hi : ce.var n = some i) (hd : (n == ("__debug__" : PySem.Str)) = false) : SE κ d env vars (.Name n pos) (wpE Γ (.var i)) := by
  rintro A s σ ε q r S F ⟨x, hx, hq⟩
  exact load_var eo F hi hx hd fun v hv => After.now S ⟨x, hv, hq⟩
theorem se_glob {ce : CEnv} {n : PySem.Str} {pos : Pos} {a : Addr} (G : GOk κ Γ meths d) (eo : EnvOk env ce vars) (hl : ce.names.lookup n = some .globalImplicit) (hg : nsIn κ.K mainGlobals n = some (some (.ref a))) (hd : (n == ("__debug__" : PySem.Str)) = false) :
    SE κ d env vars (.Name n pos) (wpE Γ (.glob a)) := by
  rintro A s σ ε q r S F hq
  have X : κ.K.In s.heap := fun b o e => S.base _ _ (G.ok.X b o e)
  have T := G.ok.T.keeps (fun b o e => S.base b o e)
  refine Calls.Name_function_global eo.kind (by unfold Env.kindOf; rw [eo.names]; exact hl) (Calls.loadGlobal_global (mg := κ.mg) (by rw [eo.globals]; exact T.g) (mg_of X T.g hg) ?_) hd
  exact After.now S ⟨_, .ref a, hq⟩
theorem se_none {k : Nat} {pos : Pos} : SE κ d env vars (.Constant .none k pos) (wpE Γ .none) := fun _ _ _ _ _ _ S _ hq => wpAny_Constant_none (After.now S ⟨_, .none, hq⟩)
theorem se_bool {b : Bool} {k : Nat} {pos : Pos} : SE κ d env vars (.Constant (.bool b) k pos) (wpE Γ (.bool b)) := fun _ _ _ _ _ _ S _ hq => wpAny_Constant_bool (After.now S ⟨_, .bool b, hq⟩)
theorem se_int {i : Int} {k : Nat} {pos : Pos} : SE κ d env vars (.Constant (.int i) k pos) (wpE Γ (.int i)) := fun _ _ _ _ _ _ S _ hq => wpAny_Constant_int (After.tok S ⟨_, .int i _, hq⟩)
theorem se_str {x : PySem.Str} {k : Nat} {pos : Pos} : SE κ d env vars (.Constant (.str x) k pos) (wpE Γ (.str x)) := fun _ _ _ _ _ _ S _ hq => wpAny_Constant_str (After.tok S ⟨_, .str x _, hq⟩)
theorem se_bytes {x : List UInt8} {k : Nat} {pos : Pos} : SE κ d env vars (.Constant (.bytes x) k pos) (wpE Γ (.bytes x)) := fun _ _ _ _ _ _ S _ hq => by
  show wpAny _ _ (mkTextBytes x.toArray) _ _ _
  exact wpAny_mkTextBytes (After.tok S ⟨_, .bytes _ _, hq⟩)
theorem ses_nil : SEs κ d env vars [] (wpEs Γ .nil) := fun _ _ _ _ _ _ _ S _ hq => wpAny_items_nil (After.now S ⟨[], .nil, rfl, hq⟩)
theorem ses_cons {e : PySem.Expr} {es : List PySem.Expr} {pe : PE} {pes : PEs} (he : starEach (e :: es) env = (false, eval e env) :: starEach es env) (h1 : SE κ d env vars e (wpE Γ pe)) (h2 : SEs κ d env vars es (wpEs Γ pes)) :
    SEs κ d env vars (e :: es) (wpEs Γ (.cons pe pes)) := by
  rintro A s σ ε q pos r S F hq
  refine wpAny_items_cons (wpAny_mono (h1 A s σ ε _ r S F hq) (fun v s1 zz => ?_) fun _ _ z => z) he
  obtain ⟨σ1, w1, S1, x, ix, q1⟩ := zz
  refine wpAny_mono (h2 A s1 σ1 ε _ pos r S1 (F.keep w1.fut) q1) (fun vs s2 zz => ?_) fun _ _ z => z
  obtain ⟨σ2, w2, S2, xs, hv, hl, q2⟩ := zz
  exact ⟨σ2, w1.trans w2, S2, _, .cons ix hv, by simp [hl], q2⟩
theorem se_list (G : GOk κ Γ meths d) {es : List PySem.Expr} {pos : Pos} {pes : PEs} (hz : es.length ≤ 1000) (h : SEs κ d env vars es (wpEs Γ pes)) : SE κ d env vars (.List es pos) (wpE Γ (.list pes)) := by
  rintro A s σ ε q r S F hq
  refine wpAny_List (wpAny_mono (h A s σ ε _ pos r S F hq) (fun vs s1 ⟨σ1, w1, S1, xs, hv, hl, q1⟩ => ⟨by rw [hl, sizeLine_eq]; omega, ?_⟩) fun _ _ z => z)
  exact After.up w1 (after_new G S1 (seq_sits hv (S1.base_none (fresh_none _)) (by rw [← hv.length, hl]; omega)) q1)
theorem se_tup (G : GOk κ Γ meths d) {es : List PySem.Expr} {k : Nat} {pos : Pos} {pes : PEs} (hz : es.length ≤ 1000) (h : SEs κ d env vars es (wpEs Γ pes)) : SE κ d env vars (.Tuple es k pos) (wpE Γ (.tup pes)) := by
  rintro A s σ ε q r S F hq
  refine wpAny_Tuple (wpAny_mono (h A s σ ε _ pos r S F hq) (fun vs s1 ⟨σ1, w1, S1, xs, hv, hl, q1⟩ => ⟨by rw [hl, sizeLine_eq]; omega, ?_⟩) fun _ _ z => z)
  exact After.up w1 (after_new G S1 (tup_sits hv) q1)
theorem se_ite {c a b : PySem.Expr} {pos : Pos} {pc : PC} {pa pb : PE} (hc : SC κ d env vars c (wpC Γ pc)) (ha : SE κ d env vars a (wpE Γ pa)) (hb : SE κ d env vars b (wpE Γ pb)) : SE κ d env vars (.IfExp c a b pos) (wpE Γ (.ite pc pa pb)) := by
  rintro A s σ ε q r S F hq
  refine wpAny_IfExp (wpAny_mono (hc A s σ ε _ r S F hq) (fun t s1 zz => ?_) fun _ _ z => z)
  obtain ⟨σ1, w1, S1, q1⟩ := zz
  cases t with
  | true => exact Goes.up w1 (ha A s1 σ1 ε q r S1 (F.keep w1.fut) q1)
  | false => exact Goes.up w1 (hb A s1 σ1 ε q r S1 (F.keep w1.fut) q1)
theorem sc_not {c : PySem.Expr} {pos : Pos} {pc : PC} (hc : SC κ d env vars c (wpC Γ pc)) : SC κ d env vars (.UnaryOp .Not c pos) (wpC Γ (.not pc)) := by
  rintro A s σ ε q r S F hq
  refine wpAny_isTrue_Not (wpAny_mono (hc A s σ ε _ r S F hq) (fun t s1 zz => ?_) fun _ _ z => z)
  obtain ⟨σ1, w1, S1, q1⟩ := zz
  exact ⟨σ1, w1, S1, q1⟩
noncomputable def SA (κ : Kx) (d : Nat) (env : Env) (vars : List (PySem.Str × Loc)) (op : BoolOp) (es : List PySem.Expr) (w : (Bool → Sto → Prop) → Env0 → Sto → Prop) : Prop :=
  ∀ A s σ ε q, Room A d → St κ σ s → FrameSt vars ε σ s.heap → w q ε σ → Goes κ [] A (allTrue op es env) σ s q
theorem sc_bool {op : BoolOp} {es : List PySem.Expr} {pos : Pos} {w : (Bool → Sto → Prop) → Env0 → Sto → Prop} (h : SA κ d env vars op es w) : SC κ d env vars (.BoolOp op es pos) w := fun A s σ ε q r S F hq => wpAny_isTrue_BoolOp (h A s σ ε q r S F hq)
theorem sa_and_one {c : PySem.Expr} {pc : PC} (hc : SC κ d env vars c (wpC Γ pc)) : SA κ d env vars .And [c] (wpC Γ pc) := by
  rintro A s σ ε q r S F hq
  refine wpAny_allTrue_And_cons (wpAny_mono (hc A s σ ε _ r S F hq) (fun t s1 zz => ?_) fun _ _ z => z)
  obtain ⟨σ1, w1, S1, q1⟩ := zz
  cases t with
  | true => exact wpAny_allTrue_And_nil ⟨σ1, w1, S1, q1⟩
  | false => exact ⟨σ1, w1, S1, q1⟩
theorem sa_or_one {c : PySem.Expr} {pc : PC} (hc : SC κ d env vars c (wpC Γ pc)) : SA κ d env vars .Or [c] (wpC Γ pc) := by
  rintro A s σ ε q r S F hq
  refine wpAny_allTrue_Or_cons (wpAny_mono (hc A s σ ε _ r S F hq) (fun t s1 zz => ?_) fun _ _ z => z)
  obtain ⟨σ1, w1, S1, q1⟩ := zz
  cases t with
  | true => exact ⟨σ1, w1, S1, q1⟩
  | false => exact wpAny_allTrue_Or_nil ⟨σ1, w1, S1, q1⟩
theorem sa_and {c : PySem.Expr} {cs : List PySem.Expr} {pc pr : PC} (hc : SC κ d env vars c (wpC Γ pc)) (hr : SA κ d env vars .And cs (wpC Γ pr)) : SA κ d env vars .And (c :: cs) (wpC Γ (.and pc pr)) := by
  rintro A s σ ε q r S F hq
  refine wpAny_allTrue_And_cons (wpAny_mono (hc A s σ ε _ r S F hq) (fun t s1 zz => ?_) fun _ _ z => z)
  obtain ⟨σ1, w1, S1, q1⟩ := zz
  cases t with
  | true => exact Goes.up w1 (hr A s1 σ1 ε q r S1 (F.keep w1.fut) q1)
  | false => exact ⟨σ1, w1, S1, q1⟩
theorem sa_or {c : PySem.Expr} {cs : List PySem.Expr} {pc pr : PC} (hc : SC κ d env vars c (wpC Γ pc)) (hr : SA κ d env vars .Or cs (wpC Γ pr)) : SA κ d env vars .Or (c :: cs) (wpC Γ (.or pc pr)) := by
  rintro A s σ ε q r S F hq
  refine wpAny_allTrue_Or_cons (wpAny_mono (hc A s σ ε _ r S F hq) (fun t s1 zz => ?_) fun _ _ z => z)
  obtain ⟨σ1, w1, S1, q1⟩ := zz
  cases t with
  | true => exact ⟨σ1, w1, S1, q1⟩
  | false => exact Goes.up w1 (hr A s1 σ1 ε q r S1 (F.keep w1.fut) q1)
theorem Ents.length {kvs : List (Int × Value)} {es : List (Int × V)} (h : Ents kvs es) : kvs.length = es.length := by
  induction h with
  | nil => rfl
  | cons _ _ ih => simp [ih]
theorem new_low (G : GOk κ Γ meths d) {σ : Sto} {s : Shared} (S : St κ σ s) : (s.heap.objs.size == sysModules) = false := by
  have z := (G.ok.T.keeps (fun b o e => S.base b o e)).g.lt
  have : sysModules < mainGlobals := by decide
  exact beq_eq_false_iff_ne.mpr (by intro e; rw [e] at z; exact absurd (Nat.lt_trans z this) (Nat.lt_irrefl _))
theorem truth_ok (G : GOk κ Γ meths d) {A : Around} {σ : Sto} {s : Shared} {v : Value} {x : V} {t : Bool} {q : Bool → Sto → Prop} (S : St κ σ s) (hv : Is v x) (ht : truV (look Γ σ) x = some t) (hq : q t σ) : Goes κ [] A (truthy v) σ s q := by
  cases hv with
  | bool b => cases ht; exact wpAny_truthy_bool (After.now S hq)
  | ref a =>
    unfold truV at ht
    dsimp only at ht
    cases e : look Γ σ a with
    | none => rw [e] at ht; cases ht
    | some o =>
      have Z := look_sits G S e
      rw [e] at ht
      cases o with
      | list m xs =>
        cases ht
        obtain ⟨vs, n, hl, hv, _, hz⟩ := Z
        refine wpAny_truthy_list (items := vs.toArray) ⟨_, hl, rfl, _, rfl⟩ (by rw [List.size_toArray, hv.length]; omega) (After.tok S ?_)
        have : (!vs.toArray.isEmpty) = !xs.isEmpty := by cases hv <;> rfl
        rw [this]; exact hq
      | dict es ep =>
        cases ht
        obtain ⟨kvs, hd, he, _, hz, hl⟩ := Z
        refine wpAny_truthy_dict (K := Int) (knd := intKind κ.prog κ.w) (kvs := kvs) hl hd.dictOf (by rw [he.length]; omega) (After.tok S ?_)
        have : (!kvs.isEmpty) = !es.isEmpty := by cases he <;> rfl
        rw [this]; exact hq
      | _ => cases ht
  | _ => cases ht
end Mine
end
section
open PySem PySem.W PyProof.Rows PySem.SeqAt
set_option Elab.async false
set_option maxRecDepth 100000
namespace Mine
variable {κ : Kx} {Γ : Gx} {meths : List (PySem.Str × Addr)} {d : Nat} {env : Env} {vars : List (PySem.Str × Loc)}
theorem EqAt.bytes {A : Around} {s : Shared} (a : Array UInt8) (t : Tok) (b : Array UInt8) (u : Tok) : EqAt A s (.bytes a t) (.bytes b u) (a.toList == b.toList) := fun prog w E Q h => by
  unfold eqBool
  refine wpAny_holding (wpAny_ite_split (fun hab => ?_) fun _ => ?_)
  · have e : a = b := by have := eq_of_beq hab; injection this
    subst e
    rw [beq_self_eq_true] at h
    exact wpAny_bind (wpAny_rule (wpAny_pure h))
  · exact wpAny_bind (W.eq_bytes (wpAny_truthy_bool h))
theorem allEq_spec {f : V → V → Option Bool} : ∀ {xs ys : List V} {b : Bool}, allEq f xs ys = some b → xs.length = ys.length ∧ ∃ e : Nat → Bool, (∀ (j : Nat) (x y : V), xs[j]? = some x → ys[j]? = some y → f x y = some (e j)) ∧ b = (List.range xs.length).all e
  | [], [], b, h => by cases h; exact ⟨rfl, fun _ => true, fun j x y e => by simp at e, rfl⟩
  | [], _ :: _, _, h => by cases h
  | _ :: _, [], _, h => by cases h
  | x :: xs, y :: ys, b, h => by
    unfold allEq at h
    split at h
    · rename_i a c h1 h2
      cases h
      obtain ⟨hl, e, he, rfl⟩ := allEq_spec h2
      refine ⟨by simp [hl], fun j => match j with | 0 => a | j + 1 => e j, fun j u v e1 e2 => ?_, ?_⟩
      · cases j with
        | zero => simp at e1 e2; subst e1 e2; exact h1
        | succ j => exact he j u v (by simpa using e1) (by simpa using e2)
      · rw [List.length_cons, List.range_succ_eq_map, List.all_cons, List.all_map]; rfl
    · cases h
theorem allEq_refl {f : V → V → Option Bool} (hf : ∀ x b, f x x = some b → b = true) : ∀ {xs : List V} {b : Bool}, allEq f xs xs = some b → b = true
  | [], _, h => by cases h; rfl
  | x :: xs, b, h => by
    unfold allEq at h
    split at h
    · rename_i a c h1 h2
      cases h
      rw [hf x a h1, allEq_refl hf h2]; rfl
    · cases h
theorem eqV_refl (L : Addr → Option AO) : ∀ (n : Nat) (x : V) (b : Bool), eqV L n x x = some b → b = true := by
  intro n
  induction n with
  | zero =>
    intro x b h
    cases x <;> simp [eqV] at h <;> exact h
  | succ n ih =>
    intro x b h
    cases x with
    | ref a =>
      unfold eqV at h
      split at h
      · rename_i m xs m' ys e1 e2
        rw [e1] at e2; cases e2
        rw [if_pos rfl] at h
        exact allEq_refl ih h
      · rename_i xs ys e1 e2
        rw [e1] at e2; cases e2
        rw [if_pos rfl] at h
        exact allEq_refl ih h
      · rw [if_pos rfl] at h
        cases h; rfl
      · cases h
    | _ => simp [eqV] at h <;> exact h
theorem arr_get {vs : List Value} {j : Nat} (h : j < vs.toArray.size) : vs[j]? = some vs.toArray[j] := by
  have h' : j < vs.length := by simpa using h
  simp [h']
theorem pairs_any {p p' : Program} {w w' : World} {es : List DictEntry} {kvs : List (Int × Value)} (h : Pairs (intKind p w) es kvs) : Pairs (intKind p' w') es kvs := by
  induction h with
  | nil => exact .nil
  | cons a b _ ih => exact .cons a b ih
theorem dictOf_any {p p' : Program} {w w' : World} {h : Heap} {a : Addr} {kvs : List (Int × Value)} (x : h.DictOf (intKind p w) a kvs) : h.DictOf (intKind p' w') a kvs :=
  let ⟨o, es, ep, h1, h2, h3, h4, h5, h6⟩ := x; ⟨o, es, ep, h1, h2, h3, h4, pairs_any h5, h6⟩
theorem Ents.valueAt {kvs : List (Int × Value)} {es : List (Int × V)} (h : Ents kvs es) (k : Int) : (getE k es = none → valueAt kvs k = none) ∧ ∀ x, getE k es = some x → ∃ v, valueAt kvs k = some v ∧ Is v x := by
  induction h with
  | nil => exact ⟨fun _ => rfl, fun x e => by cases e⟩
  | @cons k' v x es fs hv _ ih =>
    unfold PySem.valueAt at ih ⊢
    unfold getE
    by_cases hk : k' = k
    · simp only [hk, if_true]
      exact ⟨(fun e => nomatch e), fun x e => by cases e; exact ⟨v, by simp, hv⟩⟩
    · simp only [hk, if_false]
      have : ∀ (l : List (Int × Value)), ((k', v) :: l).find? (fun kv => decide (kv.1 = k)) = l.find? (fun kv => decide (kv.1 = k)) := fun l => by simp [List.find?_cons, hk]
      rw [this]
      exact ih
theorem dictEq_hits {f : V → V → Option Bool} {A : Around} {s : Shared} (hf : ∀ (x y : V) (b : Bool) (v u : Value), f x y = some b → Is v x → Is u y → EqAt A s v u b) {kb : List (Int × Value)} {fs : List (Int × V)} (hb : Ents kb fs) :
    ∀ {ka : List (Int × Value)} {es : List (Int × V)} {b : Bool}, Ents ka es → dictEq f fs es = some b → KeqHits A s kb ka b := by
  intro ka es b h
  induction h generalizing b with
  | nil => intro e; cases e; exact .nil
  | @cons k v x es fs' hv _ ih =>
    intro e
    unfold dictEq at e
    dsimp only at e
    split at e
    · rename_i q
      cases e
      exact .miss ((hb.valueAt k).1 q)
    · rename_i y q
      split at e
      · rename_i a c h1 h2
        cases e
        obtain ⟨u, hu, iu⟩ := (hb.valueAt k).2 y q
        exact .hit hu (hf x y a v u h1 hv iu) (ih h2)
      · cases e
theorem eqV_ok (G : GOk κ Γ meths d) {σ : Sto} {s : Shared} (S : St κ σ s) : ∀ (n : Nat) (x y : V) (b : Bool) (v u : Value) (A : Around), eqV (look Γ σ) n x y = some b → Is v x → Is u y → A.units + n < cLine → EqAt A s v u b := by
  intro n
  induction n with
  | zero =>
    intro x y b v u A h hv hu _
    cases hv <;> cases hu <;> first
      | (exfalso; simp [eqV] at h; done)
      | (cases h; exact EqAt.bool_bool _ _)
      | (cases h; exact EqAt.int_int _ _ _ _)
      | (cases h; exact EqAt.str_str _ _ _ _)
      | (cases h; exact EqAt.bytes _ _ _ _)
  | succ n ih =>
    intro x y b v u A h hv hu hA
    cases hv with
    | ref a =>
      cases hu with
      | ref c =>
        by_cases hac : a = c
        · subst hac
          rw [eqV_refl _ _ _ _ h]
          exact EqAt.same _
        · refine EqAt.of_refs hac ?_
          unfold eqV at h
          split at h
          · rename_i m xs m' ys e1 e2
            obtain ⟨vs, k, o1, hvs, _⟩ := look_sits G S e1
            obtain ⟨us, k', o2, hus, _⟩ := look_sits G S e2
            have l1 : s.heap.IsList a vs.toArray := ⟨_, o1, rfl, _, rfl⟩
            have l2 : s.heap.IsList c us.toArray := ⟨_, o2, rfl, _, rfl⟩
            split at h
            · rename_i hl
              obtain ⟨_, e, he, rfl⟩ := allEq_spec h
              have z := RcAt.lists (A := A) (e := e) l1 l2 (by simp [hvs.length, hus.length, hl]) (by omega) fun j h1 h2 => by
                obtain ⟨x, hx, ix⟩ := vals_back hvs (arr_get h1)
                obtain ⟨y, hy, iy⟩ := vals_back hus (arr_get h2)
                exact ih x y _ _ _ A.in1 (he j x y hx hy) ix iy (by show A.units + 1 + n < cLine; omega)
              rw [List.size_toArray, hvs.length] at z
              exact z
            · rename_i hl
              cases h
              exact RcAt.lists_lengths l1 l2 (by simp [hvs.length, hus.length, hl]) (by omega)
          · rename_i xs ys e1 e2
            obtain ⟨vs, l1, hvs⟩ := look_sits G S e1
            obtain ⟨us, l2, hus⟩ := look_sits G S e2
            split at h
            · rename_i hl
              obtain ⟨_, e, he, rfl⟩ := allEq_spec h
              have z := RcAt.tuples (A := A) (e := e) l1 l2 (by omega) fun j h1 h2 => by
                obtain ⟨x, hx, ix⟩ := vals_back hvs (arr_get h1)
                obtain ⟨y, hy, iy⟩ := vals_back hus (arr_get h2)
                exact ih x y _ _ _ A.in1 (he j x y hx hy) ix iy (by show A.units + 1 + n < cLine; omega)
              simp only [List.size_toArray, hvs.length, hus.length, hl, Nat.min_self, beq_self_eq_true, Bool.and_true] at z
              rw [hl]; exact z
            · cases h
          · rename_i es _ fs _ e1 e2
            rw [if_neg hac] at h
            obtain ⟨ka, d1, n1, _, hz1, lw1⟩ := look_sits G S e1
            obtain ⟨kb, d2, n2, _, hz2, lw2⟩ := look_sits G S e2
            intro prog w E Q hq
            have hits : ∀ b', dictEq (eqV (look Γ σ) n) fs es = some b' → KeqHits A.in1 s kb ka b' := fun b' e => dictEq_hits (fun x y b v u e iv iu => ih x y b v u A.in1 e iv iu (by show A.units + 1 + n < cLine; omega)) n2 n1 e
            split at h
            · rename_i hl
              refine keq_eq (knd := intKind prog w) lw1 lw2 (dictOf_any d1.dictOf) (dictOf_any d2.dictOf) (by omega) (fun _ => hits _ h) ?_
              rw [show (ka.length == kb.length) = true by rw [n1.length, n2.length, hl]; exact beq_self_eq_true _, Bool.true_and]
              exact hq
            · rename_i hl
              cases h
              refine keq_eq (knd := intKind prog w) (r := true) lw1 lw2 (dictOf_any d1.dictOf) (dictOf_any d2.dictOf) (by omega) (fun e => absurd ((n1.length.symm.trans e).trans n2.length) hl) ?_
              rw [show (ka.length == kb.length) = false by rw [n1.length, n2.length]; exact beq_eq_false_iff_ne.mpr hl, Bool.false_and]
              exact hq
          · cases h
      | _ => simp [eqV] at h
    | bool a =>
      cases hu with
      | bool c => cases h; exact EqAt.bool_bool _ _
      | _ => simp [eqV] at h
    | int a t =>
      cases hu with
      | int c u => cases h; exact EqAt.int_int _ _ _ _
      | _ => simp [eqV] at h
    | str a t =>
      cases hu with
      | str c u => cases h; exact EqAt.str_str _ _ _ _
      | _ => simp [eqV] at h
    | bytes a t =>
      cases hu with
      | bytes c u => cases h; exact EqAt.bytes _ _ _ _
      | _ => simp [eqV] at h
    | none => cases hu <;> simp [eqV] at h
end Mine
namespace Mine
variable {κ : Kx} {Γ : Gx} {meths : List (PySem.Str × Addr)} {d : Nat} {env : Env} {vars : List (PySem.Str × Loc)}
theorem eqT_ok (G : GOk κ Γ meths d) {σ : Sto} {s : Shared} (S : St κ σ s) {A : Around} (r : Room A d) {x y : V} {b : Bool} {v u : Value} {E : Value → Shared → Prop} {Q : Value → Shared → Prop} (h : eqT (look Γ σ) x y = some b) (hv : Is v x) (hu : Is u y) :
    (Q (.bool b) s → wpAny (model κ.prog κ.w) A (compareOp .Eq v u) Q E s) ∧ (Q (.bool !b) s → wpAny (model κ.prog κ.w) A (compareOp .NotEq v u) Q E s) := by
  have hA : A.units + 8 < cLine := by have := r.units; show A.units + 8 < 9900; omega
  have lists : ∀ a c m xs m' ys, look Γ σ a = some (.list m xs) → look Γ σ c = some (.list m' ys) → eqV (look Γ σ) 4 (.ref a) (.ref c) = some b →
      (Q (.bool b) s → wpAny (model κ.prog κ.w) A (compareOp .Eq (.ref a) (.ref c)) Q E s) ∧ (Q (.bool !b) s → wpAny (model κ.prog κ.w) A (compareOp .NotEq (.ref a) (.ref c)) Q E s) := by
    intro a c m xs m' ys e1 e2 h
    obtain ⟨vs, k, o1, hvs, _⟩ := look_sits G S e1
    obtain ⟨us, k', o2, hus, _⟩ := look_sits G S e2
    have l1 : s.heap.IsList a vs.toArray := ⟨_, o1, rfl, _, rfl⟩
    have l2 : s.heap.IsList c us.toArray := ⟨_, o2, rfl, _, rfl⟩
    unfold eqV at h
    rw [e1, e2] at h
    dsimp only at h
    split at h
    · rename_i hl
      obtain ⟨_, e, he, rfl⟩ := allEq_spec h
      have hz : vs.toArray.size = us.toArray.size := by simp [hvs.length, hus.length, hl]
      have hi : ∀ j (h1 : j < vs.toArray.size) (h2 : j < us.toArray.size), EqAt A.in1 s vs.toArray[j] us.toArray[j] (e j) := fun j h1 h2 => by
        obtain ⟨x, hx, ix⟩ := vals_back hvs (arr_get h1)
        obtain ⟨y, hy, iy⟩ := vals_back hus (arr_get h2)
        exact eqV_ok G S 3 x y _ _ _ A.in1 (he j x y hx hy) ix iy (by show A.units + 1 + 3 < cLine; omega)
      have z1 := RcAt.lists (A := A) (e := e) l1 l2 hz (by omega) hi κ.prog κ.w E Q
      have z2 := RcNeAt.lists (A := A) (e := e) l1 l2 hz (by omega) hi κ.prog κ.w E Q
      rw [List.size_toArray, hvs.length] at z1 z2
      exact ⟨z1, z2⟩
    · rename_i hl
      cases h
      have hz : (vs.toArray.size != us.toArray.size) = true := by simp [hvs.length, hus.length, hl]
      exact ⟨RcAt.lists_lengths (A := A) l1 l2 hz (by omega) κ.prog κ.w E Q, RcNeAt.lists_lengths (A := A) l1 l2 hz (by omega) κ.prog κ.w E Q⟩
  have tups : ∀ a c xs ys, look Γ σ a = some (.tup xs) → look Γ σ c = some (.tup ys) → eqV (look Γ σ) 4 (.ref a) (.ref c) = some b →
      (Q (.bool b) s → wpAny (model κ.prog κ.w) A (compareOp .Eq (.ref a) (.ref c)) Q E s) ∧ (Q (.bool !b) s → wpAny (model κ.prog κ.w) A (compareOp .NotEq (.ref a) (.ref c)) Q E s) := by
    intro a c xs ys e1 e2 h
    obtain ⟨vs, l1, hvs⟩ := look_sits G S e1
    obtain ⟨us, l2, hus⟩ := look_sits G S e2
    unfold eqV at h
    rw [e1, e2] at h
    dsimp only at h
    split at h
    · rename_i hl
      obtain ⟨_, e, he, rfl⟩ := allEq_spec h
      have hi : ∀ j (h1 : j < vs.toArray.size) (h2 : j < us.toArray.size), EqAt A.in1 s vs.toArray[j] us.toArray[j] (e j) := fun j h1 h2 => by
        obtain ⟨x, hx, ix⟩ := vals_back hvs (arr_get h1)
        obtain ⟨y, hy, iy⟩ := vals_back hus (arr_get h2)
        exact eqV_ok G S 3 x y _ _ _ A.in1 (he j x y hx hy) ix iy (by show A.units + 1 + 3 < cLine; omega)
      have z1 := RcAt.tuples (A := A) (e := e) l1 l2 (by omega) hi κ.prog κ.w E Q
      have z2 := RcNeAt.tuples (A := A) (e := e) l1 l2 (by omega) hi κ.prog κ.w E Q
      simp only [List.size_toArray, hvs.length, hus.length, hl, Nat.min_self, beq_self_eq_true, Bool.and_true] at z1 z2
      rw [hl]
      exact ⟨z1, z2⟩
    · cases h
  cases hv with
  | ref a =>
    cases hu with
    | ref c =>
      unfold eqT at h
      dsimp only at h
      split at h
      · rename_i es _ fs _ e1 e2
        obtain ⟨ka, d1, n1, _, hz1, lw1⟩ := look_sits G S e1
        obtain ⟨kb, d2, n2, _, hz2, lw2⟩ := look_sits G S e2
        have hc : A.units < cLine := by omega
        split at h
        · rename_i hl
          have hits : KeqHits A.in1 s kb ka b := dictEq_hits (fun x y b v u e iv iu => eqV_ok G S 3 x y b v u A.in1 e iv iu (by show A.units + 1 + 3 < cLine; omega)) n2 n1 h
          have hlen : (ka.length == kb.length) = true := by rw [n1.length, n2.length, hl]; exact beq_self_eq_true _
          refine ⟨fun q => keq_eq lw1 lw2 d1.dictOf d2.dictOf hc (fun _ => hits) ?_, fun q => keq_ne lw1 lw2 d1.dictOf d2.dictOf hc (fun _ => hits) ?_⟩
          · rw [hlen, Bool.true_and]; exact q
          · rw [hlen, Bool.true_and]; exact q
        · rename_i hl
          cases h
          have hlen : (ka.length == kb.length) = false := by rw [n1.length, n2.length]; exact beq_eq_false_iff_ne.mpr hl
          have hne : ka.length ≠ kb.length := by rw [n1.length, n2.length]; exact hl
          refine ⟨fun q => keq_eq (r := true) lw1 lw2 d1.dictOf d2.dictOf hc (fun e => absurd e hne) ?_, fun q => keq_ne (r := true) lw1 lw2 d1.dictOf d2.dictOf hc (fun e => absurd e hne) ?_⟩
          · rw [hlen, Bool.false_and]; exact q
          · rw [hlen, Bool.false_and]; exact q
      · have h0 := h
        unfold eqV at h
        split at h
        · rename_i e1 e2
          exact lists _ _ _ _ _ _ e1 e2 h0
        · rename_i e1 e2
          exact tups _ _ _ _ e1 e2 h0
        · rename_i hno _ _ _ _ _ _ e1 e2
          exact (hno _ _ _ _ e1 e2).elim
        · cases h
    | _ => simp [eqT, eqV] at h
  | bool a =>
    cases hu with
    | bool c => simp [eqT, eqV] at h; subst h; exact ⟨RcAt.bool_bool a c κ.prog κ.w E Q, RcNeAt.bool_bool a c κ.prog κ.w E Q⟩
    | _ => simp [eqT, eqV] at h
  | int a t =>
    cases hu with
    | int c u => cases h; exact ⟨fun q => P.eq_int q, fun q => P.ne_int q⟩
    | _ => simp [eqT, eqV] at h
  | str a t =>
    cases hu with
    | str c u =>
      cases h
      exact ⟨fun q => P.eq_str (by rw [str_beq]; exact q), fun q => P.ne_str (by rw [bne, str_beq]; exact q)⟩
    | _ => simp [eqT, eqV] at h
  | bytes a t =>
    cases hu with
    | bytes c u => cases h; exact ⟨fun q => W.eq_bytes q, fun q => W.ne_bytes q⟩
    | _ => simp [eqT, eqV] at h
  | none => cases hu <;> simp [eqT, eqV] at h
end Mine
namespace Mine
variable {κ : Kx} {Γ : Gx} {meths : List (PySem.Str × Addr)} {d : Nat} {env : Env} {vars : List (PySem.Str × Loc)}
noncomputable def cOp : CmpOp → Op
  | .Eq => .eq | .NotEq => .ne | .Lt => .lt | .LtE => .le | .Gt => .gt | .GtE => .ge | .In => .isIn | .NotIn => .notIn | .Is => .is | .IsNot => .isNot
noncomputable def eqB : Value → V → Bool
  | .bool a, .bool b => a == b
  | .int a _, .int b => a == b
  | .str a _, .str b => a == b
  | .bytes a _, .bytes b => a.toList == b.toList
  | _, _ => false
theorem eqB_of {v : Value} {y x : V} {b : Bool} {L : Addr → Option AO} (hv : Is v y) (h : eqV L 0 y x = some b) : eqB v x = b := by
  cases hv <;> cases x <;> first
    | (exfalso; simp [eqV] at h; done)
    | (cases h; rfl)
theorem eqV0 (L L' : Addr → Option AO) (x y : V) : eqV L 0 x y = eqV L' 0 x y := by
  cases x <;> cases y <;> rfl
theorem memV_spec {x : V} : ∀ {xs : List V} {vs : List Value} {b : Bool}, Vals vs xs → memV x xs = some b → (∀ v ∈ vs, ∃ y, Is v y ∧ ∃ e, eqV (fun _ => none) 0 y x = some e) ∧ vs.any (fun v => eqB v x) = b := by
  intro xs vs b hv
  induction hv generalizing b with
  | nil => intro h; cases h; exact ⟨(fun v h => nomatch h), rfl⟩
  | cons h1 _ ih =>
    intro h
    unfold memV at h
    split at h
    · rename_i a c e1 e2
      cases h
      obtain ⟨i1, i2⟩ := ih e2
      refine ⟨fun v hm => ?_, by rw [List.any_cons, eqB_of h1 e1, i2]⟩
      rcases List.mem_cons.mp hm with rfl | hm
      · exact ⟨_, h1, _, e1⟩
      · exact i1 v hm
    · cases h
theorem isInt_is {k : Int} {t : Tok} : Value.isInt k (.int k t) = true := by simp [Value.isInt]
theorem op_ok (G : GOk κ Γ meths d) {σ : Sto} {s : Shared} (S : St κ σ s) {A : Around} (r : Room A d) {op : CmpOp} {x y : V} {v u : Value} {q : Bool → Sto → Prop} (h : opW Γ (cOp op) x y q σ) (hv : Is v x) (hu : Is u y) :
    wpAny (model κ.prog κ.w) A (compareOp op v u) (After κ [] σ s (fun z σ' => ∃ t, z = .bool t ∧ q t σ')) noE s := by
  have hin : ∀ b, inV (look Γ σ) x y = some b → (∀ Q : Value → Shared → Prop, (∀ tk, Q (.bool b) { s with toks := tk }) → wpAny (model κ.prog κ.w) A (compareOp .In v u) Q noE s) ∧
      (∀ Q : Value → Shared → Prop, (∀ tk, Q (.bool !b) { s with toks := tk }) → wpAny (model κ.prog κ.w) A (compareOp .NotIn v u) Q noE s) := by
    intro b hb
    have seq : ∀ (vs : List Value) (xs : List V), Vals vs xs → memV x xs = some b → (∀ w, w ∈ vs.toArray → EqAt A.in1 s w v (eqB w x)) ∧ vs.toArray.any (fun w => eqB w x) = b := by
      intro vs xs hvs hm
      obtain ⟨i1, i2⟩ := memV_spec hvs hm
      refine ⟨fun w hw => ?_, by simpa using i2⟩
      obtain ⟨y', iy, e, he⟩ := i1 w (by simpa using hw)
      rw [eqB_of iy he]
      exact eqV_ok G S 0 y' x e w v A.in1 (by rw [eqV0 _ (fun _ => none)]; exact he) iy hv (by have := r.units; show A.units + 1 + 0 < 9900; omega)
    cases hu with
    | ref a =>
      unfold inV at hb
      dsimp only at hb
      split at hb
      · rename_i m xs e
        obtain ⟨vs, k, o1, hvs, _⟩ := look_sits G S e
        have l1 : s.heap.IsList a vs.toArray := ⟨_, o1, rfl, _, rfl⟩
        obtain ⟨j1, j2⟩ := seq vs xs hvs hb
        exact ⟨fun Q hq => in_listAt _ l1 j1 (by rw [j2]; exact hq s.toks), fun Q hq => notIn_listAt _ l1 j1 (by rw [j2]; exact hq s.toks)⟩
      · rename_i xs e
        obtain ⟨vs, l1, hvs⟩ := look_sits G S e
        obtain ⟨j1, j2⟩ := seq vs xs hvs hb
        exact ⟨fun Q hq => in_tupleAt _ l1 j1 (by rw [j2]; exact hq s.toks), fun Q hq => notIn_tupleAt _ l1 j1 (by rw [j2]; exact hq s.toks)⟩
      · rename_i es ep k e
        obtain ⟨ka, d1, n1, _, hz1, lw1⟩ := look_sits G S e
        cases hb
        cases hv with
        | int _ t =>
          have hb' : (valueAt ka k).isSome = (getE k es).isSome := by
            cases q : getE k es with
            | none => rw [(n1.valueAt k).1 q]; rfl
            | some z => obtain ⟨w, hw, _⟩ := (n1.valueAt k).2 z q; rw [hw]; rfl
          exact ⟨fun Q hq => wpAny_in_of (knd := intKind κ.prog κ.w) (k := k) (isInt_is (t := t)) lw1 d1.dictOf.mapOf (by rw [hb']; exact hq _), fun Q hq => wpAny_notIn_of (knd := intKind κ.prog κ.w) (k := k) (isInt_is (t := t)) lw1 d1.dictOf.mapOf (by rw [hb']; exact hq _)⟩
      · cases hb
    | _ => cases x <;> simp [inV] at hb
  cases op with
  | Eq => obtain ⟨b, e, hq⟩ := h; exact (eqT_ok G S r e hv hu).1 (After.now S ⟨b, rfl, hq⟩)
  | NotEq => obtain ⟨b, e, hq⟩ := h; exact (eqT_ok G S r e hv hu).2 (After.now S ⟨!b, rfl, hq⟩)
  | In => obtain ⟨b, e, hq⟩ := h; exact (hin b e).1 _ fun tk => After.tok S ⟨b, rfl, hq⟩
  | NotIn => obtain ⟨b, e, hq⟩ := h; exact (hin b e).2 _ fun tk => After.tok S ⟨!b, rfl, hq⟩
  | Lt =>
    cases x with
    | int i =>
      cases y with
      | int j => cases hv; cases hu; exact P.lt_int (After.now S ⟨_, rfl, h⟩)
      | _ => exact h.elim
    | _ => exact h.elim
  | LtE =>
    cases x with
    | int i =>
      cases y with
      | int j => cases hv; cases hu; exact P.le_int (After.now S ⟨_, rfl, h⟩)
      | _ => exact h.elim
    | _ => exact h.elim
  | Gt =>
    cases x with
    | int i =>
      cases y with
      | int j => cases hv; cases hu; exact P.gt_int (After.now S ⟨_, rfl, h⟩)
      | _ => exact h.elim
    | _ => exact h.elim
  | GtE =>
    cases x with
    | int i =>
      cases y with
      | int j => cases hv; cases hu; exact P.ge_int (After.now S ⟨_, rfl, h⟩)
      | _ => exact h.elim
    | _ => exact h.elim
  | Is =>
    cases y with
    | none => cases hu; cases hv <;> exact is_none (After.now S ⟨_, rfl, h⟩)
    | _ => first | exact h.elim | (cases x <;> exact h.elim)
  | IsNot =>
    cases y with
    | none => cases hu; cases hv <;> exact isNot_none (After.now S ⟨_, rfl, h⟩)
    | _ => first | exact h.elim | (cases x <;> exact h.elim)
theorem se_cmp (G : GOk κ Γ meths d) {op : CmpOp} {a b : PySem.Expr} {pos : Pos} {pa pb : PE} (hm : behindInMarks op b = false) (ha : SE κ d env vars a (wpE Γ pa)) (hb : SE κ d env vars b (wpE Γ pb)) :
    SE κ d env vars (.Compare a [op] [b] pos) (wpE Γ (.cmp (cOp op) pa pb)) := by
  rintro A s σ ε q r S F hq
  refine wpAny_Compare1 (wpAny_mono (ha A s σ ε _ r S F hq) (fun v s1 zz => ?_) fun _ _ z => z) hm
  obtain ⟨σ1, w1, S1, x, ix, q1⟩ := zz
  refine wpAny_mono (hb A s1 σ1 ε _ r S1 (F.keep w1.fut) q1) (fun u s2 zz => ?_) fun _ _ z => z
  obtain ⟨σ2, w2, S2, y, iy, q2⟩ := zz
  refine wpAny_mono (op_ok G S2 r q2 ix iy) (fun z s3 zz => ?_) fun _ _ z => z
  obtain ⟨σ3, w3, S3, t, e, q3⟩ := zz
  subst e
  exact ⟨σ3, (w1.trans w2).trans w3, S3, _, .bool t, q3⟩
theorem sc_cmp (G : GOk κ Γ meths d) {op : CmpOp} {a b : PySem.Expr} {pos : Pos} {pa pb : PE} (hm : behindInMarks op b = false) (ha : SE κ d env vars a (wpE Γ pa)) (hb : SE κ d env vars b (wpE Γ pb)) :
    SC κ d env vars (.Compare a [op] [b] pos) (wpC Γ (.cmp (cOp op) pa pb)) := by
  rintro A s σ ε q r S F hq
  refine wpAny_isTrue_Compare1 (wpAny_mono (ha A s σ ε _ r S F hq) (fun v s1 zz => ?_) fun _ _ z => z) hm
  obtain ⟨σ1, w1, S1, x, ix, q1⟩ := zz
  refine wpAny_mono (hb A s1 σ1 ε _ r S1 (F.keep w1.fut) q1) (fun u s2 zz => ?_) fun _ _ z => z
  obtain ⟨σ2, w2, S2, y, iy, q2⟩ := zz
  refine wpAny_mono (op_ok G S2 r q2 ix iy) (fun z s3 zz => ?_) fun _ _ z => z
  obtain ⟨σ3, w3, S3, t, e, q3⟩ := zz
  subst e
  exact wpAny_truthy_bool ⟨σ3, (w1.trans w2).trans w3, S3, q3⟩
theorem se_and (G : GOk κ Γ meths d) {a b : PySem.Expr} {pos : Pos} {pa pb : PE} (ha : SE κ d env vars a (wpE Γ pa)) (hb : SE κ d env vars b (wpE Γ pb)) : SE κ d env vars (.BoolOp .And [a, b] pos) (wpE Γ (.and pa pb)) := by
  rintro A s σ ε q r S F hq
  refine wpAny_And2 (wpAny_mono (ha A s σ ε _ r S F hq) (fun v s1 zz => ?_) fun _ _ z => z)
  obtain ⟨σ1, w1, S1, x, ix, t, ht, q1⟩ := zz
  refine wpAny_mono (truth_ok G (A := A) (q := fun t' σ' => t' = t ∧ σ' = σ1) S1 ix ht ⟨rfl, rfl⟩) (fun t' s2 zz => ?_) fun _ _ z => z
  obtain ⟨σ2, w2, S2, e1, e2⟩ := zz
  subst e1 e2
  cases t' with
  | true => exact Goes.up (w1.trans w2) (hb A s2 σ2 ε q r S2 (F.keep (w1.trans w2).fut) q1)
  | false => exact ⟨σ2, w1.trans w2, S2, x, ix, q1⟩
theorem sc_val (G : GOk κ Γ meths d) {e : PySem.Expr} {pe : PE} (he : ∀ whole, isTrue e env whole = (do let v ← whole; standAt e.pos; holding [v] (truthy v))) (h : SE κ d env vars e (wpE Γ pe)) : SC κ d env vars e (wpC Γ (.val pe)) := by
  rintro A s σ ε q r S F hq
  refine wpAny_isTrue_value (wpAny_mono (h A s σ ε _ r S F hq) (fun v s1 zz => ?_) fun _ _ z => z) (he _)
  obtain ⟨σ1, w1, S1, x, ix, t, ht, q1⟩ := zz
  exact Goes.up w1 (truth_ok G S1 ix ht q1)
end Mine
end
section
open PySem PySem.W PyProof.Rows PySem.SeqAt
set_option Elab.async false
set_option maxRecDepth 100000
namespace Mine
variable {κ : Kx} {Γ : Gx} {meths : List (PySem.Str × Addr)} {d : Nat} {env : Env} {vars : List (PySem.Str × Loc)}
theorem add_ok (G : GOk κ Γ meths d) {σ : Sto} {s : Shared} (S : St κ σ s) {A : Around} {x y : V} {v u : Value} {q : Post} (h : addW Γ x y q σ) (hv : Is v x) (hu : Is u y) :
    Goes κ [] A (binaryOp .Add v u) σ s (fun v σ' => ∃ x, Is v x ∧ q x σ') := by
  cases hv with
  | int a t =>
    cases hu with
    | int b u => exact P.add_int (After.tok S ⟨_, .int _ _, h⟩)
    | _ => exact h.elim
  | bytes a t =>
    cases hu with
    | bytes b u => exact KBy.add_bytes (by have := h.1; omega) fun t' k => After.tok S ⟨_, .bytes _ _, h.2⟩
    | _ => exact h.elim
  | ref a =>
    cases hu with
    | ref b =>
      obtain ⟨m, xs, m', ys, e1, e2, hz, hq⟩ := h
      obtain ⟨vs, k, o1, hvs, _⟩ := look_sits G S e1
      obtain ⟨us, k', o2, hus, _⟩ := look_sits G S e2
      have hz' : vs.toArray.size + us.toArray.size ≤ sizeLine := by rw [List.size_toArray, List.size_toArray, hvs.length, hus.length, sizeLine_eq]; omega
      refine concat_meets ⟨_, o1, rfl⟩ ⟨_, o2, rfl⟩ noFill_list_add seq_list_add PySem.F.slot_list_add PySem.F.entry_list_add (PySem.F.args_list_add_2 _ _) (list_addW a b vs.toArray us.toArray k k' none none #[] #[] hz') ⟨o1, o2, ?_⟩
      have e : vs.toArray ++ us.toArray = (vs ++ us).toArray := by simp
      rw [e]
      exact after_new G S (seq_sits (hvs.append hus) (S.base_none (fresh_none _)) (by rw [List.length_append]; omega)) hq
    | _ => exact h.elim
  | _ => cases hu <;> exact h.elim
theorem se_add (G : GOk κ Γ meths d) {a b : PySem.Expr} {pos : Pos} {pa pb : PE} (ha : SE κ d env vars a (wpE Γ pa)) (hb : SE κ d env vars b (wpE Γ pb)) : SE κ d env vars (.BinOp a .Add b pos) (wpE Γ (.add pa pb)) := by
  rintro A s σ ε q r S F hq
  refine wpAny_BinOp (wpAny_mono (ha A s σ ε _ r S F hq) (fun v s1 zz => ?_) fun _ _ z => z)
  obtain ⟨σ1, w1, S1, x, ix, q1⟩ := zz
  refine wpAny_mono (hb A s1 σ1 ε _ r S1 (F.keep w1.fut) q1) (fun u s2 zz => ?_) fun _ _ z => z
  obtain ⟨σ2, w2, S2, y, iy, q2⟩ := zz
  exact Goes.up (w1.trans w2) (add_ok G S2 q2 ix iy)
theorem get_back {vs : List Value} {xs : List V} {i : Nat} {x : V} (h : Vals vs xs) (e : xs[i]? = some x) : ∃ v, vs.toArray[i]? = some v ∧ Is v x := by
  obtain ⟨v, hv, iv⟩ := h.get e
  exact ⟨v, by simpa using hv, iv⟩
theorem sub_ok (G : GOk κ Γ meths d) {σ : Sto} {s : Shared} (S : St κ σ s) {A : Around} {x y : V} {v u : Value} {q : Post} {value slice : PySem.Expr} (hsl : ∀ o i, subscripted slice false o i = operate [o, i] (getItem o i))
    (h : subW Γ x y q σ) (hv : Is v x) (hu : Is u y) : Goes κ [] A (subscriptTail value slice v u) σ s (fun v σ' => ∃ x, Is v x ∧ q x σ') := by
  cases hv with
  | ref a =>
    cases hu with
    | int k t =>
      unfold subW at h
      dsimp only at h
      split at h
      · rename_i m xs e
        obtain ⟨h0, h1, z, hz, hq⟩ := h
        obtain ⟨vs, n, o1, hvs, _⟩ := look_sits G S e
        obtain ⟨w, hw, iw⟩ := get_back hvs hz
        have l1 : s.heap.IsList a vs.toArray := ⟨_, o1, rfl, _, rfl⟩
        exact tail_any l1.typeIs slot_list_getitem.lookup (wpAny_getItem_list l1 h0 (by unfold big at h1; omega) hw (After.now S ⟨z, iw, hq⟩)) (hsl _ _)
      · rename_i xs e
        obtain ⟨h0, h1, z, hz, hq⟩ := h
        obtain ⟨vs, l1, hvs⟩ := look_sits G S e
        obtain ⟨w, hw, iw⟩ := get_back hvs hz
        have hlt : k.toNat < vs.toArray.size := (Array.getElem?_eq_some_iff.mp hw).1
        have hk : seqIndex? k vs.toArray.size = some k.toNat := seqIndex_of h0 (by omega)
        exact tail_any l1.typeIs PySem.F.slot_tuple_getitem.lookup (getItem_tuple l1 (by omega) (by unfold big at h1; omega) hk hw (After.now S ⟨z, iw, hq⟩)) (hsl _ _)
      · rename_i es ep e
        obtain ⟨z, hz, hq⟩ := h
        obtain ⟨ka, d1, n1, _, hz1, lw1⟩ := look_sits G S e
        obtain ⟨w, hw, iw⟩ := (n1.valueAt k).2 z hz
        exact tail_any d1.dictOf.typeIs slot_dict_getitem.lookup (wpAny_getItem_of (knd := intKind κ.prog κ.w) (k := k) (isInt_is (t := t)) d1.dictOf.mapOf hw (After.tok S ⟨z, iw, hq⟩)) (hsl _ _)
      · exact h.elim
    | _ => exact h.elim
  | _ => cases hu <;> exact h.elim
theorem se_sub (G : GOk κ Γ meths d) {a i : PySem.Expr} {pos : Pos} {pa pi : PE} (hsl : ∀ o v, subscripted i false o v = operate [o, v] (getItem o v)) (ha : SE κ d env vars a (wpE Γ pa)) (hi : SE κ d env vars i (wpE Γ pi)) :
    SE κ d env vars (.Subscript a i pos) (wpE Γ (.sub pa pi)) := by
  rintro A s σ ε q r S F hq
  refine Subscript_ (wpAny_mono (ha A s σ ε _ r S F hq) (fun v s1 zz => ?_) fun _ _ z => z)
  obtain ⟨σ1, w1, S1, x, ix, q1⟩ := zz
  refine wpAny_mono (hi A s1 σ1 ε _ r S1 (F.keep w1.fut) q1) (fun u s2 zz => ?_) fun _ _ z => z
  obtain ⟨σ2, w2, S2, y, iy, q2⟩ := zz
  exact Goes.up (w1.trans w2) (sub_ok G S2 hsl q2 ix iy)
theorem Vals.take {vs : List Value} {xs : List V} (h : Vals vs xs) : ∀ n : Nat, Vals (vs.take n) (xs.take n) := by
  induction h with
  | nil => intro n; simp; exact .nil
  | cons h1 _ ih => intro n; cases n with | zero => exact .nil | succ n => exact .cons h1 (ih n)
theorem Vals.drop {vs : List Value} {xs : List V} (h : Vals vs xs) : ∀ n : Nat, Vals (vs.drop n) (xs.drop n) := by
  induction h with
  | nil => intro n; simp; exact .nil
  | cons h1 h2 ih => intro n; cases n with | zero => exact .cons h1 h2 | succ n => exact ih n
theorem after_cut (G : GOk κ Γ meths d) {σ : Sto} {s : Shared} (S : St κ σ s) {ob : Obj} {zs : Array Value} {vs : List Value} {xs : List V} {q : Post} (hz : zs = vs.toArray) (hv : Vals vs xs) (hl : xs.length ≤ 1000000)
    (h : ∀ l, New Γ σ l → q (.ref l) (σ.set l (.list true xs))) : After κ [] σ s (fun v σ' => ∃ x, Is v x ∧ q x σ') (.ref (s.heap.objs.size + 1)) { s with heap := (s.heap.push ob).push { cls := .type "list", data := .seq zs } } := by
  have S1 : St κ σ { s with heap := s.heap.push ob } := S.aside G.ok (tk := s.toks) fun b o e _ => Heap.get?_push_of_some _ e
  have w1 : Way [] σ s σ { s with heap := s.heap.push ob } := Way.of' ⟨fun b o e _ _ => Heap.get?_push_of_some _ e, fun _ e => .inl e⟩
  have z := after_new G S1 (ob := { cls := .type "list", data := .seq zs }) (ao := .list true xs) (q := q) (by rw [hz]; exact seq_sits hv (S1.base_none (fresh_none _)) hl) h
  have e : (s.heap.push ob).objs.size = s.heap.objs.size + 1 := Heap.size_push _ _
  have z' := After.up w1 z
  simp only [e] at z'
  exact z'
theorem se_upto (G : GOk κ Γ meths d) {a hi : PySem.Expr} {p pos : Pos} {pa ph : PE} (ht : ∀ o r, letTemporaryGo a o r = pure ()) (ha : SE κ d env vars a (wpE Γ pa)) (hh : SE κ d env vars hi (wpE Γ ph)) :
    SE κ d env vars (.Subscript a (.Slice none (some hi) none p) pos) (wpE Γ (.upto pa ph)) := by
  rintro A s σ ε q r S F hq
  refine wpAny_Subscript_list_slice (wpAny_mono (ha A s σ ε _ r S F hq) (fun v s1 zz => ?_) fun _ _ z => z) ht
  obtain ⟨σ1, w1, S1, x, ix, q1⟩ := zz
  rw [evalPart_none, evalPart_some]
  refine wpAny_pure (wpAny_mono (hh A s1 σ1 ε _ r S1 (F.keep w1.fut) q1) (fun u s2 zz => ?_) fun _ _ z => z)
  obtain ⟨σ2, w2, S2, y, iy, q2⟩ := zz
  cases ix with
  | ref l =>
    cases iy with
    | int k t =>
      obtain ⟨h0, m, xs, e, hq2⟩ := q2
      obtain ⟨vs, n, o1, hvs, _, hz⟩ := look_sits G S2 e
      refine ⟨l, vs.toArray, none, some k, rfl, ⟨_, o1, rfl, _, rfl⟩, by rw [List.size_toArray, hvs.length, sizeLine_eq]; omega, .none, .int k t, ?_⟩
      refine After.up (w1.trans w2) (after_cut G S2 (vs := vs.take k.toNat) ?_ (hvs.take _) (by rw [List.length_take]; omega) hq2)
      rw [kms_pick_eq]
      unfold kms_pick kms_lo kms_hi
      simp only [if_neg (show ¬ k < 0 by omega)]
      simp [kmk_take_min]
    | _ => exact q2.elim
  | _ => cases iy <;> exact q2.elim
end Mine
end
section
open PySem PySem.W PyProof.Rows PySem.SeqAt
set_option Elab.async false
set_option maxRecDepth 100000
namespace Mine
variable {κ : Kx} {Γ : Gx} {meths : List (PySem.Str × Addr)} {d : Nat} {env : Env} {vars : List (PySem.Str × Loc)}
theorem after_made (G : GOk κ Γ meths d) {σ : Sto} {s : Shared} (S : St κ σ s) {a : Addr} {h' : Heap} {tk : Nat} {ao : AO} {q : Post} (ha : s.heap.get? a = none) (k : ∀ b o, s.heap.get? b = some o → h'.get? b = some o)
    (hn : Sits κ (σ.set a ao) h' a ao) (h : ∀ l, New Γ σ l → q (.ref l) (σ.set l ao)) : After κ [] σ s (fun v σ' => ∃ x, Is v x ∧ q x σ') (.ref a) { s with heap := h', toks := tk } := by
  obtain ⟨x, y⟩ := S.more G.ok (tk := tk) ha k hn
  exact ⟨_, Way.of y, x, _, .ref _, h _ (new_of G S ha)⟩
theorem after_kept (G : GOk κ Γ meths d) {σ : Sto} {s : Shared} (S : St κ σ s) {h' : Heap} {tk : Nat} {α : Type} {v : α} {Q : α → Sto → Prop} (k : ∀ b o, s.heap.get? b = some o → h'.get? b = some o) (h : Q v σ) : After κ [] σ s Q v { s with heap := h', toks := tk } :=
  ⟨σ, Way.of ⟨fun b o e _ _ => k b o e, fun _ e => .inl e⟩, S.aside G.ok fun b o e _ => k b o e, h⟩
theorem ints_are {vs : List Value} {xs : List V} (h : Vals vs xs) : ∀ {ks : List Int}, intsOf xs = some ks → IntsAre vs ks := by
  induction h with
  | nil => intro ks e; cases e; exact .nil
  | @cons v x vs xs hv _ ih =>
    intro ks e
    cases hv with
    | int i t =>
      unfold intsOf at e
      cases q : intsOf xs with
      | none => rw [q] at e; cases e
      | some ks' => rw [q] at e; cases e; exact .cons _ _ (ih q)
    | _ => cases e
theorem ints_vals {vs : List Value} {ks : List Int} (h : IntsAre vs ks) : Vals vs (ks.map .int) := by
  induction h with
  | nil => exact .nil
  | cons _ _ _ ih => exact .cons (.int _ _) ih
theorem intsOf_map (ks : List Int) : intsOf (ks.map .int) = some ks := by
  induction ks with
  | nil => rfl
  | cons k ks ih => show (intsOf (ks.map .int)).map (k :: ·) = _; rw [ih]; rfl
theorem sortI_of {ns ns' : List Int} (p : ns'.Perm ns) (w : ns'.Pairwise (· ≤ ·)) : ns' = sortI ns := by
  have h1 : (sortI ns).Perm ns := List.mergeSort_perm ns _
  have h2 : (sortI ns).Pairwise fun a b => decide (a ≤ b) = true := List.pairwise_mergeSort (fun a b c x y => by simp at *; omega) (fun a b => by simp; omega) ns
  exact List.Perm.eq_of_pairwise (le := fun a b => a ≤ b) (fun _ _ _ _ a b => Int.le_antisymm a b) w (h2.imp fun x => by simpa using x) (p.trans h1.symm)
theorem keys_are {kvs : List (Int × Value)} {acc : Array Value} (h : ItemsOf (fun i v => ∃ k x, kvs[i]? = some (k, x) ∧ (intKind κ.prog κ.w).is k v = true) acc kvs.length) : IntsAre acc.toList (kvs.map (·.1)) := by
  have key : ∀ (l : List Value) (ks : List Int), l.length = ks.length → (∀ (j : Nat) (v : Value), l[j]? = some v → ∃ k t, ks[j]? = some k ∧ v = .int k t) → IntsAre l ks := by
    intro l
    induction l with
    | nil => intro ks e _; cases ks with | nil => exact .nil | cons => cases e
    | cons v l ih =>
      intro ks e hj
      cases ks with
      | nil => cases e
      | cons k ks =>
        obtain ⟨k', t, e1, rfl⟩ := hj 0 v rfl
        simp at e1; subst e1
        exact .cons _ _ (ih ks (by simpa using e) fun j u hu => by simpa using hj (j + 1) u (by simpa using hu))
  refine key _ _ (by simp [h.1]) fun j v hv => ?_
  obtain ⟨k, x, e, hk⟩ := h.2 j v (by simpa using hv)
  obtain ⟨t, rfl⟩ := Value.isInt_shape hk
  exact ⟨k, t, by simp [e], rfl⟩
theorem Ents.keys {kvs : List (Int × Value)} {es : List (Int × V)} (h : Ents kvs es) : kvs.map (·.1) = es.map (·.1) := by
  induction h with
  | nil => rfl
  | cons _ _ ih => simp [ih]
theorem keysOf_ints {es : List (Int × V)} {ks : List Int} (h : intsOf (es.map fun p => V.int p.1) = some ks) : ks = es.map (·.1) := by
  have := intsOf_map (es.map (·.1))
  rw [List.map_map] at this
  have e2 : (V.int ∘ fun x : Int × V => x.1) = fun p : Int × V => V.int p.1 := rfl
  rw [e2, h] at this
  exact Option.some.inj this
theorem sorted_list {A : Around} {σ : Sto} {s : Shared} (G : GOk κ Γ meths d) (S : St κ σ s) {l : Addr} {vs : List Value} {ns : List Int} {q : Post} (hl : s.heap.IsList l vs.toArray) (hI : IntsAre vs ns) (hz : ns.length ≤ 60)
    (h : ∀ l, New Γ σ l → q (.ref l) (σ.set l (.list true ((sortI ns).map .int)))) : Goes κ [] A (call (.builtin "sorted") [.ref l]) σ s (fun v σ' => ∃ x, Is v x ∧ q x σ') := by
  have hlen := hI.length
  refine sorted_ints hl hI (by omega) fun out ns' a1 a2 a3 => ?_
  obtain ⟨e, he⟩ := sortedAll_at s.heap vs out
  have hfr : s.heap.get? (s.heap.objs.size + 1) = none := by
    cases q : s.heap.get? (s.heap.objs.size + 1) with
    | none => rfl
    | some o => exact absurd (Nat.lt_trans (Nat.lt_succ_self _) (Heap.lt_size q)) (Nat.lt_irrefl _)
  refine after_made (tk := s.toks) (ao := .list true ((sortI ns).map .int)) G S hfr (fun _ _ => sortedAll_old) ⟨out.toList, e, he, ?_, fun _ => S.base_none hfr, ?_⟩ h
  · rw [← sortI_of a2 a3]; exact ints_vals a1
  · rw [List.length_map, ← sortI_of a2 a3, a2.length_eq]; omega
theorem sorted_dict {A : Around} {σ : Sto} {s : Shared} (G : GOk κ Γ meths d) (S : St κ σ s) (hh : A.handled = none) {a : Addr} {kvs : List (Int × Value)} {ep : Nat} {q : Post} (hd : s.heap.DictAt (intKind κ.prog κ.w) a kvs ep) (lo : (a == sysModules) = false) (hz : kvs.length ≤ 60)
    (h : ∀ l, New Γ σ l → q (.ref l) (σ.set l (.list true ((sortI (kvs.map (·.1))).map .int)))) : Goes κ [] A (call (.builtin "sorted") [.ref a]) σ s (fun v σ' => ∃ x, Is v x ∧ q x σ') := by
  refine Calls.call_function_entry kind_sorted plain_sorted entry_sorted (args_sorted1 _) ?_
  unfold Builtin.«sorted»
  refine wpAny_bind (m := checkCount "sorted" 1 1 _) (wpAny_pure ?_)
  refine wpAny_bind (kdu_collect (A := A.in1) (kdl_dict (knd := intKind κ.prog κ.w) (kvs := kvs) (ep := ep) lo) hh hd (by rw [sizeLine_eq]; omega) fun h' tk acc hk hacc => ?_)
  have hI := keys_are hacc
  have hl : acc.toList.length = kvs.length := by rw [Array.length_toList]; exact hacc.1
  refine wpAny_bind (wpAny_newList ?_ (by rw [hl, sizeLine_eq]; omega))
  have ho : (h'.push { cls := .type "list", data := .seq acc.toList.toArray }).get? h'.objs.size = some (seqObj "list" acc.toList.toArray 0) := Heap.get?_push_size _ rfl
  have hfr : s.heap.get? h'.objs.size = none := by
    cases q : s.heap.get? h'.objs.size with
    | none => rfl
    | some o => exact absurd (Heap.lt_size (hk _ _ q)) (Nat.lt_irrefl _)
  refine wpAny_bind (wpAny_holding (wpAny_call_entry slot_list_sort ⟨_, ho, rfl⟩ entry_list_sort (list_sort_tree ho hI (by rw [hl]; omega) fun out ns' a1 a2 a3 => ⟨_, rfl, ?_⟩) (args_list_sort _)))
  refine wpAny_pure ⟨_, rfl, ?_⟩
  obtain ⟨e, he⟩ := sortedHeap_at (vs := acc.toList) (out := out) ho
  refine after_made (tk := tk) (ao := .list true ((sortI (kvs.map (·.1))).map .int)) G S hfr (fun b o eb => ?_) ⟨out.toList, e, he, ?_, fun _ => S.base_none hfr, ?_⟩ h
  · have hlt := Heap.lt_size (hk _ _ eb)
    rw [sortedHeap_old (Nat.ne_of_lt hlt) (by rw [Heap.size_push]; exact Nat.lt_succ_of_lt hlt)]
    exact Heap.get?_push_of_some _ (hk _ _ eb)
  · rw [← sortI_of a2 a3]; exact ints_vals a1
  · rw [List.length_map, ← sortI_of a2 a3, a2.length_eq, List.length_map]; omega
theorem best_max : ∀ (f : Nat → Int) (n : Nat), f (argBest (fun i j => decide (f i > f j)) n) = (List.range n).foldl (fun a i => max a (f (i + 1))) (f 0) := by
  intro f n
  induction n with
  | zero => rfl
  | succ n ih =>
    rw [List.range_succ, List.foldl_append]
    show f (if decide (f (n + 1) > f (argBest _ n)) = true then n + 1 else argBest _ n) = max _ (f (n + 1))
    rw [← ih]
    generalize argBest (fun i j => decide (f i > f j)) n = m
    by_cases h : f (n + 1) > f m
    · rw [if_pos (by simpa using h), Int.max_eq_right (Int.le_of_lt h)]
    · rw [if_neg (by simpa using h), Int.max_eq_left (Int.not_lt.mp h)]
theorem best_of {ns : List Int} {k : Int} {ks : List Int} (e : ns = k :: ks) : ns.getD (argBest (fun i j => decide (ns.getD i 0 > ns.getD j 0)) (ns.length - 1)) 0 = ks.foldl max k := by
  have := best_max (fun i => ns.getD i 0) (ns.length - 1)
  rw [this]
  subst e
  show (List.range ks.length).foldl (fun a i => max a (((k :: ks).getD (i + 1)) 0)) k = _
  have key : ∀ (ks : List Int) (k : Int), (List.range ks.length).foldl (fun a i => max a (ks.getD i 0)) k = ks.foldl max k := by
    intro ks
    induction ks with
    | nil => intro k; rfl
    | cons a ks ih =>
      intro k
      rw [List.length_cons, List.range_succ_eq_map, List.foldl_cons, List.foldl_map]
      exact ih (max k a)
  exact key ks k
theorem max_ok {A : Around} {σ : Sto} {s : Shared} (G : GOk κ Γ meths d) (S : St κ σ s) (hh : A.handled = none) {T : String} {r d' : Addr} {P : Nat → Value → Prop} {OK : Heap → Prop} {ns : List Int} {k : Int} {ks : List Int} {q : Post} (K : KdlSrc κ.prog κ.w T r d' ns.length P OK) (ok : OK s.heap)
    (hP : ∀ i v, P i v → ∃ t, v = .int (ns.getD i 0) t) (e : ns = k :: ks) (h : q (.int (ks.foldl max k)) σ) : Goes κ [] A (call (.builtin "max") [.ref r]) σ s (fun v σ' => ∃ x, Is v x ∧ q x σ') := by
  refine call_max_walk ?_
  obtain ⟨oI, St, hit, W, st⟩ := K.iter A.in1 s hh ok
  refine hit _ _ ⟨s.heap.objs.size, _, _, ns.length, P, _, _, rfl, W, st, fun b hb => ?_, by rw [e]; exact Nat.succ_pos _, CmpOf.ints_gt (fun i => ns.getD i 0) hP, fun v h' tk hv hk => ?_⟩
  · show b < (s.heap.push oI).objs.size
    rw [size_push']
    rcases List.mem_cons.mp hb with e | hb
    · rw [e]; exact Nat.lt_succ_self _
    · rw [List.mem_singleton.mp hb]; exact Nat.lt_succ_of_lt (K.there _ ok).2
  · obtain ⟨t, rfl⟩ := hP _ _ hv
    rw [best_of e]
    exact after_kept G S (tk := tk) (fun b o eb => hk b o (fun hI => absurd (Heap.lt_size eb) (by rw [List.mem_singleton.mp hI]; exact Nat.lt_irrefl _)) (Heap.get?_push_of_some _ eb)) ⟨_, .int _ _, h⟩
end Mine
end
section
open PySem PySem.W PyProof.Rows PySem.SeqAt
set_option Elab.async false
set_option maxRecDepth 100000
namespace Mine
variable {κ : Kx} {Γ : Gx} {meths : List (PySem.Str × Addr)} {d : Nat} {env : Env} {vars : List (PySem.Str × Loc)}
theorem putE_len (k : Int) (x : V) : ∀ es : List (Int × V), (putE k x es).length ≤ es.length + 1
  | [] => Nat.le_refl _
  | p :: r => by
    unfold putE
    split
    · simp
    · have := putE_len k x r; simp; omega
theorem Ents.map_same {kvs : List (Int × Value)} {es : List (Int × V)} {k : Int} {v : Value} (h : Ents kvs es) (hn : k ∉ kvs.map (·.1)) : kvs.map (fun kv => if kv.1 = k then (kv.1, v) else kv) = kvs := by
  induction h with
  | nil => rfl
  | @cons k' u x es fs _ _ ih =>
    simp only [List.map_cons, List.mem_cons, not_or] at hn
    rw [List.map_cons, ih hn.2, if_neg (fun e => hn.1 e.symm)]
theorem Ents.stored {kvs : List (Int × Value)} {es : List (Int × V)} {k : Int} {v : Value} {x : V} (h : Ents kvs es) (hn : (kvs.map (·.1)).Nodup) (hv : Is v x) : Ents (stored kvs k v) (putE k x es) := by
  induction h with
  | nil => exact .cons hv .nil
  | @cons k' u y es fs hu hr ih =>
    have hn' := List.nodup_cons.mp hn
    unfold PySem.stored putE
    dsimp only
    by_cases e : k' = k
    · subst e
      rw [if_pos (by simp), if_pos rfl, List.map_cons, if_pos rfl, hr.map_same hn'.1]
      exact .cons hv hr
    · rw [if_neg e]
      have z := ih hn'.2
      unfold PySem.stored at z
      by_cases q : es.any (fun kv => decide (kv.1 = k)) = true
      · rw [if_pos q] at z
        rw [if_pos (by simp [q]), List.map_cons, if_neg e]
        exact .cons hu z
      · rw [if_neg q] at z
        rw [if_neg (by simpa [e] using q)]
        exact .cons hu z
theorem DictAt.nodup {h : Heap} {a : Addr} {kvs : List (Int × Value)} {ep : Nat} (x : h.DictAt (intKind κ.prog κ.w) a kvs ep) : (kvs.map (·.1)).Nodup := let ⟨_, _, _, _, _, _, _, hn⟩ := x; hn
noncomputable def Cur (h : Heap) (I a : Addr) (src : AO) (i : Nat) : Prop := match src with
  | .list _ _ => h.IsListIter I a i
  | .tup _ => h.IsTupleIter I a i
  | .dict es ep => h.IsKeyIter I a i es.length ep
  | .range n => IsRangeIter h I (i : Int) ((n : Int) - i) 1
  | _ => False
theorem Cur.there {h : Heap} {I a : Addr} {src : AO} {i : Nat} (c : Cur h I a src i) : ∃ o, h.get? I = some o := by
  cases src with
  | list _ _ => obtain ⟨o, e, _⟩ := c; exact ⟨o, e⟩
  | tup _ => obtain ⟨o, e, _⟩ := c; exact ⟨o, e⟩
  | dict _ _ => obtain ⟨o, e, _⟩ := c; exact ⟨o, e⟩
  | range n => exact ⟨_, c⟩
  | _ => exact c.elim
theorem Cur.keep {h h' : Heap} {I a : Addr} {src : AO} {i : Nat} (c : Cur h I a src i) (k : ∀ o, h.get? I = some o → h'.get? I = some o) : Cur h' I a src i := by
  cases src with
  | list _ _ => obtain ⟨o, e, r⟩ := c; exact ⟨o, k _ e, r⟩
  | tup _ => obtain ⟨o, e, r⟩ := c; exact ⟨o, k _ e, r⟩
  | dict _ _ => obtain ⟨o, e, r⟩ := c; exact ⟨o, k _ e, r⟩
  | range n => exact k _ c
  | _ => exact c.elim
theorem small_n {n : Nat} (h : n ≤ 100000) : Builtin.Range.small 0 n 1 = true := small_one (by omega) (by omega) (by omega) (by omega)
theorem iter_ok (G : GOk κ Γ meths d) {A : Around} {σ : Sto} {s : Shared} (S : St κ σ s) {a : Addr} {src : AO} {xs : List V} {E : Value → Shared → Prop} {Q : Value → Shared → Prop} (e : look Γ σ a = some src) (hi : itemsOf src = some xs) (hz : xs.length ≤ 100000)
    (h : ∀ ob, Cur (s.heap.push ob) s.heap.objs.size a src 0 → Q (.ref s.heap.objs.size) { s with heap := s.heap.push ob }) : wpAny (model κ.prog κ.w) A (pyIter (.ref a)) Q E s := by
  have Z := look_sits G S e
  cases src with
  | list m ys =>
    obtain ⟨vs, n, o1, _⟩ := Z
    exact wpAny_pyIter_list (items := vs.toArray) ⟨_, o1, rfl, _, rfl⟩ (h _ ⟨_, Heap.get?_push_size _ rfl, rfl, rfl⟩)
  | tup ys =>
    obtain ⟨vs, l1, _⟩ := Z
    exact wpAny_pyIter_tuple l1 (h _ ⟨_, Heap.get?_push_size _ rfl, rfl, rfl⟩)
  | dict es ep =>
    obtain ⟨kvs, hd, he, _, _, lo⟩ := Z
    refine wpAny_pyIter_dict lo hd ?_
    rw [he.length]
    exact h _ ⟨_, Heap.get?_push_size _ rfl, rfl, rfl⟩
  | range n =>
    cases hi
    rw [List.length_map, List.length_range] at hz
    obtain ⟨t, u, v, hr⟩ := Z
    refine wpAny_pyIter_range hr (small_n hz) (h _ ?_)
    have : Builtin.Range.rangeSize 0 n 1 = (n : Int) - 0 := by rw [rangeSize_nat]; omega
    rw [this]
    exact Heap.get?_push_size _ rfl
  | _ => cases hi
theorem next_ok (G : GOk κ Γ meths d) {A : Around} (hh : A.handled = none) {σ : Sto} {s : Shared} (S : St κ σ s) {I a : Addr} {src : AO} {xs : List V} {i : Nat} {E : Value → Shared → Prop} {Q : Option Value → Shared → Prop} (e : look Γ σ a = some src) (hi : itemsOf src = some xs) (hle : i ≤ xs.length)
    (hz : xs.length ≤ 100000) (hc : Cur s.heap I a src i)
    (hend : xs[i]? = none → ∀ h', (∀ b o, b ≠ I → s.heap.get? b = some o → h'.get? b = some o) → Q none { s with heap := h' })
    (hitem : ∀ x v h' tk, xs[i]? = some x → Is v x → Cur h' I a src (i + 1) → (∀ b o, b ≠ I → s.heap.get? b = some o → h'.get? b = some o) → Q (some v) { s with heap := h', toks := tk }) :
    wpAny (model κ.prog κ.w) A (pyNext (.ref I)) Q E s := by
  have Z := look_sits G S e
  cases src with
  | list m ys =>
    cases hi
    obtain ⟨vs, n, o1, hvs, _⟩ := Z
    have hl : s.heap.IsList a vs.toArray := ⟨_, o1, rfl, _, rfl⟩
    cases q : xs[i]? with
    | none =>
      refine wpAny_pyNext_list_end hh hc hl ?_ fun h' he => hend q h' fun b o hb e => he b o hb e
      have := List.getElem?_eq_none_iff.mp q
      simp [hvs.length]; exact this
    | some x =>
      obtain ⟨v, hv, iv⟩ := get_back hvs q
      exact wpAny_pyNext_list_item hc hl hv fun h' hit hs => hitem x v h' s.toks q iv hit fun b o hb e => hs.extBut b o hb e
  | tup ys =>
    cases hi
    obtain ⟨vs, hl, hvs⟩ := Z
    cases q : xs[i]? with
    | none =>
      refine wpAny_pyNext_tuple_end hh hc hl ?_ fun h' he => hend q h' fun b o hb e => he b o hb e
      have := List.getElem?_eq_none_iff.mp q
      simp [hvs.length]; exact this
    | some x =>
      obtain ⟨v, hv, iv⟩ := get_back hvs q
      exact wpAny_pyNext_tuple_item hc hl hv fun h' hit hs => hitem x v h' s.toks q iv hit fun b o hb e => hs.extBut b o hb e
  | dict es ep =>
    cases hi
    obtain ⟨kvs, hd, he, _, _, lo⟩ := Z
    have hc' : s.heap.IsKeyIter I a i kvs.length ep := by rw [he.length]; exact hc
    cases q : (es.map fun p => V.int p.1)[i]? with
    | none =>
      have hk : kvs[i]? = none := by
        have := List.getElem?_eq_none_iff.mp q
        rw [List.length_map] at this
        exact List.getElem?_eq_none_iff.mpr (by rw [he.length]; exact this)
      exact wpAny_pyNext_dict_end hh hc' hd hk fun h' he => hend q h' fun b o hb e => he b o hb e
    | some x =>
      have hkeys := he.keys
      rw [List.getElem?_map] at q
      obtain ⟨p, hp, rfl⟩ := Option.map_eq_some_iff.mp q
      have hlt : i < kvs.length := by rw [he.length]; exact (List.getElem?_eq_some_iff.mp hp).1
      have e1 : (kvs.map (·.1))[i]? = some p.1 := by rw [hkeys, List.getElem?_map, hp]; rfl
      rw [List.getElem?_map, List.getElem?_eq_getElem hlt] at e1
      have e3 : kvs[i].1 = p.1 := Option.some.inj e1
      have e2 : kvs[i]? = some (p.1, kvs[i].2) := by rw [List.getElem?_eq_getElem hlt, ← e3]
      refine wpAny_pyNext_dict_item hc' hd e2 fun key h' hk hit hs => ?_
      obtain ⟨t, rfl⟩ := Value.isInt_shape hk
      rw [he.length] at hit
      exact hitem _ _ h' s.toks (by rw [List.getElem?_map, hp]; rfl) (.int _ _) hit fun b o hb e => hs.extBut b o hb e
  | range n =>
    cases hi
    rw [List.length_map, List.length_range] at hle hz
    by_cases q : i < n
    · refine wpAny_pyNext_range_item hc (by omega) fun h' hit hs => ?_
      refine hitem (.int (i : Nat)) _ h' (s.toks + 1) (by simp [q]) (.int _ _) ?_ fun b o hb e => hs.extBut b o hb e
      have e1 : ((i : Nat) : Int) + 1 = ((i + 1 : Nat) : Int) := by omega
      have e2 : ((n : Nat) : Int) - i - 1 = (n : Int) - ((i + 1 : Nat) : Int) := by omega
      rw [e1, e2] at hit
      exact hit
    · exact wpAny_pyNext_range_end hh hc (by omega) fun h' he => hend (by simp; omega) h' fun b o hb e => he b o hb e
  | _ => cases hi
theorem list_no_keys : typeLookup (.type "list") "keys" = pure none := by rw [typeLookup_type, builtinLookup_eq_fast]; kernel_rfl
theorem getAttrQ_miss_list {prog : Program} {w : World} {A : Around} {E : Value → Shared → Prop} {s : Shared} {a : Addr} {xs : Array Value} {k : Nat} {Q : Option Value → Shared → Prop}
    (hx : s.heap.get? a = some { cls := .type "list", dict := none, data := .seq xs k, slots := #[] }) (hA : A.handled = none)
    (h : ∀ h' tk, (∀ b o, s.heap.get? b = some o → h'.get? b = some o) → Q none { s with heap := h', toks := tk }) :
    wpAny (model prog w) A (getAttr? (.ref a) "keys") Q E s := by
  obtain ⟨hp, g, d, tk, os⟩ := s
  have hT : ∀ tk', (⟨hp, g, d, tk', os⟩ : Shared).TypeIs (.ref a) "list" := fun _ => ⟨_, hx, rfl⟩
  have f1 := sub_AttributeError
  have f3 := PySem.F.slot_list_getattribute.lookup
  have f4 := PySem.F.slot_list_getattribute.bind (.ref a)
  have f5 := am_list_getattr_none
  unfold getAttr? getAttrBy? getAttrBy
  repeat (any_goals (first | assumption | exact hT _ | ((with_reducible show wpAny _ _ (call (Value.builtin "list.__getattribute__") _ _) _ _ _); refine call_meets PySem.F.slot_list_getattribute (hT _) am_entry_list_getattribute (PySem.F.args_list_getattribute_2 _ _) (meets_getattribute_miss_list a xs k #[] "keys" _ list_no_keys (by decide +kernel)) ⟨hx, hA, fun h' tk' e hx' => ?_⟩) | wp_step))
  obtain ⟨t', u', he⟩ := hx'.there
  show wpAny _ _ (getattributeRaised _ _ _ _ _ _ _) _ _ _
  unfold getattributeRaised
  repeat (any_goals (first | assumption | wp_step))
  exact h _ _ hx'.keeps
theorem entry_update_loop : entryFor table "dict.update.loop" = some Builtin.«dict.update.loop» := entryFor_of_tree (by kernel_rfl)
theorem plain_update_loop : plainId "dict.update.loop" = true := by decide +kernel
theorem pairs_loop (G : GOk κ Γ meths d) {A : Around} (hh : A.handled = none) {σ : Sto} {s : Shared} (S : St κ σ s) {a D I : Addr} {m : Bool} {xs : List V} {R : Result → Shared → Prop} (e : look Γ σ a = some (.list m xs)) (hz : xs.length ≤ 100000) (hD : s.heap.get? D = none) (hI : s.heap.get? I = none) (hDI : I ≠ D) :
    ∀ (k i : Nat) (t : Tok) (ps es : List (Int × V)) (kvs : List (Int × Value)) (h : Heap) (tk : Nat), i + k = xs.length → pairsOf (look Γ σ) (xs.drop i) = some ps → es.length + ps.length ≤ 10000 → Ents kvs es → h.DictOf (intKind κ.prog κ.w) D kvs → Cur h I a (.list m xs) i → (∀ b o, s.heap.get? b = some o → h.get? b = some o) →
      (∀ h' tk kvs', h'.DictOf (intKind κ.prog κ.w) D kvs' → Ents kvs' (ps.foldl (fun es p => putE p.1 p.2 es) es) → (∀ b o, s.heap.get? b = some o → h'.get? b = some o) → R (.ok (.ret .none)) { s with heap := h', toks := tk }) →
      codeAny (model κ.prog κ.w) A (.builtin "dict.update.loop" ⟨[.ref D, .ref I, .int i t, .none], []⟩) R { s with heap := h, toks := tk } := by
  intro k
  induction k with
  | zero =>
    intro i t ps es kvs h tk hi hp hlen he hd hc hk hR
    have S1 : St κ σ { s with heap := h, toks := tk } := S.aside G.ok fun b o e _ => hk b o e
    refine codeAny_builtin entry_update_loop ?_
    unfold Builtin.«dict.update.loop»
    have hdr : xs.drop i = [] := List.drop_eq_nil_of_le (by omega)
    rw [hdr] at hp
    cases hp
    refine wpAny_bind (next_ok G (A := A.under _) (by first | exact hh | (unfold Around.under; exact hh) | (unfold Around.under; split <;> exact hh)) S1 e rfl (by omega) hz hc (fun _ h' hk' => ?_) fun x v h' tk' hx => ?_)
    · refine wpAny_bind (wpAny_pure (wpAny_pure ?_))
      obtain ⟨o, es', ep, h1, h2⟩ := hd
      exact hR h' tk kvs ⟨o, es', ep, hk' D o hDI.symm h1, h2⟩ he fun b o eb => hk' b o (fun z => by rw [z, hI] at eb; cases eb) (hk b o eb)
    · rw [List.getElem?_eq_none (by omega)] at hx; cases hx
  | succ k ih =>
    intro i t ps es kvs h tk hi hp hlen he hd hc hk hR
    have S1 : St κ σ { s with heap := h, toks := tk } := S.aside G.ok fun b o e _ => hk b o e
    have hlt : i < xs.length := by omega
    refine codeAny_builtin entry_update_loop ?_
    unfold Builtin.«dict.update.loop»
    refine wpAny_bind (next_ok G (A := A.under _) (by first | exact hh | (unfold Around.under; exact hh) | (unfold Around.under; split <;> exact hh)) S1 e rfl (by omega) hz hc (fun hn => ?_) fun x v h1 tk1 hx hv hc1 hk1 => ?_)
    · rw [List.getElem?_eq_getElem hlt] at hn; cases hn
    rw [List.getElem?_eq_getElem hlt] at hx
    cases hx
    rw [List.drop_eq_getElem_cons hlt] at hp
    generalize xs[i] = x at hv hp
    cases hv with
    | ref b =>
      unfold pairsOf at hp
      split at hp
      · rename_i kk y eb
        obtain ⟨pr, hpr, rfl⟩ := Option.map_eq_some_iff.mp hp
        have hk2 : ∀ b o, s.heap.get? b = some o → h1.get? b = some o := fun b o eb => hk1 b o (fun z => by rw [z, hI] at eb; cases eb) (hk b o eb)
        have S2 : St κ σ { s with heap := h1, toks := tk1 } := S.aside G.ok fun b o e _ => hk2 b o e
        obtain ⟨vs, ⟨ob, o1, hcl, nn, hdt⟩, hvs⟩ := look_sits G S2 eb
        cases hvs with
        | cons ik hvs => cases hvs with
        | cons iy hvs => cases hvs with
        | nil =>
        cases ik with
        | int kk' tt =>
        obtain ⟨od, es', epd, hod, hrd⟩ := hd
        have hd1 : h1.DictOf (intKind κ.prog κ.w) D kvs := ⟨od, es', epd, hk1 D od hDI.symm hod, hrd⟩
        refine wpAny_bind (wpAny_holding (wpAny_bind (wpAny_tryCatch ?_)))
        unfold Builtin.Dict.pairItems
        refine wpAny_bind (wpAny_typeOf (T := "tuple") ⟨ob, o1, hcl⟩ ?_)
        rw [if_pos (by decide +kernel)]
        refine wpAny_bind (wpAny_seqItems o1 hdt (wpAny_pure ?_))
        refine wpAny_holding (wpAny_dictSet_pairs (knd := intKind κ.prog κ.w) (k := kk) (by simp [intKind, Value.isInt]) hd1 (fun h2 hD2 hs2 => ?_) (by rw [he.length, sizeLine_eq]; simp at hlen; omega))
        have hput := putE_len kk y es
        refine wpAny_pure ⟨plainId_quiet plain_update_loop _, ?_⟩
        refine ih (i + 1) 0 pr (putE kk y es) _ h2 _ (by omega) hpr (by simp at hlen; omega) (he.stored (by obtain ⟨_, _, _, _, hn⟩ := hrd; exact hn) iy) hD2 (hc1.keep fun o eo => hs2.extBut I o hDI eo) (fun b o eb => hs2.extBut b o (fun z => by rw [z, hD] at eb; cases eb) (hk2 b o eb)) hR
      · cases hp
    | _ => cases hp
theorem call_dict_pairs (G : GOk κ Γ meths d) {σ : Sto} {s : Shared} (S : St κ σ s) {A : Around} (r : Room A d) {a : Addr} {m : Bool} {xs : List V} {ps : List (Int × V)} {q : Post} (e : look Γ σ a = some (.list m xs)) (hp : pairsOf (look Γ σ) xs = some ps) (hz : ps.length ≤ 1000)
    (hq : ∀ l, New Γ σ l → ∀ ep, q (.ref l) (σ.set l (.dict (ps.foldl (fun es p => putE p.1 p.2 es) []) ep))) : Goes κ [] A (call (.type "dict") [.ref a]) σ s (fun v σ' => ∃ x, Is v x ∧ q x σ') := by
  have hlx : xs.length = ps.length := by
    clear hq hz e
    induction xs generalizing ps with
    | nil => cases hp; rfl
    | cons x xs ih =>
      cases x with
      | ref b =>
        unfold pairsOf at hp
        split at hp
        · obtain ⟨pr, hpr, rfl⟩ := Option.map_eq_some_iff.mp hp
          simp [ih hpr]
        · cases hp
      | _ => cases hp
  refine callType_codes (Q₁ := fun obj s₁ => obj = .ref s.heap.objs.size ∧ s₁ = { s with heap := s.heap.push { cls := .type "dict", data := .dict #[] } }) PySem.F.kt_called_dict (PySem.F.kt_typeCall_dict_1 _) PySem.F.entry_dict_init (kt_code_dict_new _ ⟨rfl, rfl⟩) ?_
  rintro obj s₁ ⟨rfl, rfl⟩
  have hnew : (s.heap.push { cls := .type "dict", data := .dict #[] }).DictOf (intKind κ.prog κ.w) s.heap.objs.size [] := Heap.DictOf.new s.heap
  refine ⟨hnew.typeIs, PySem.F.args_dict_init_2 _ _, ?_⟩
  unfold Builtin.«dict.__init__»
  refine wpAny_bind ?_
  unfold Builtin.Dict.selfAndRest
  refine wpAny_bind (wpAny_notOrdered_dict hnew.typeIs ?_)
  show wpAny _ _ (pure (s.heap.objs.size, [Value.ref a])) _ _ _
  refine wpAny_pure ?_
  show wpAny _ _ (Builtin.Dict.updateFrom "dict.__init__" s.heap.objs.size (.ref a) [] .none) _ _ _
  unfold Builtin.Dict.updateFrom
  have S1 : St κ σ { s with heap := s.heap.push { cls := .type "dict", data := .dict #[] } } := S.aside G.ok (tk := s.toks) fun b o e _ => Heap.get?_push_of_some _ e
  obtain ⟨vs, nn, o1, hvs, _⟩ := look_sits G S1 e
  refine wpAny_bind (wpAny_typeOf (T := "list") ⟨_, o1, rfl⟩ ?_)
  rw [if_pos (by decide)]
  refine wpAny_bind (getAttrQ_miss_list o1 r.handled fun h1 tk1 hk1 => ?_)
  rw [if_pos (show (none : Option Value).isNone = true from rfl)]
  refine wpAny_bind (wpAny_rule ?_)
  have hkk : ∀ b o, s.heap.get? b = some o → h1.get? b = some o := fun b o eb => hk1 b o (Heap.get?_push_of_some _ eb)
  have S2 : St κ σ { s with heap := h1, toks := tk1 } := S.aside G.ok fun b o e _ => hkk b o e
  refine wpAny_bind (iter_ok G S2 e rfl (by omega) fun ob hc => ?_)
  have hD0 : s.heap.get? s.heap.objs.size = none := fresh_none _
  obtain ⟨od, es', epd, hod, hrd⟩ := hnew
  have hD1 : h1.get? s.heap.objs.size = some od := hk1 _ _ hod
  have hlt : s.heap.objs.size < h1.objs.size := Heap.lt_size hD1
  refine wpAny_pure ⟨plainId_quiet plain_update_loop _, ?_⟩
  refine pairs_loop G (A := A.in1) r.handled S e (by omega) hD0 (I := h1.objs.size) (by
      cases z : s.heap.get? h1.objs.size with
      | none => rfl
      | some o => exact absurd (Heap.lt_size (hkk _ _ z)) (Nat.lt_irrefl _)) (Nat.ne_of_gt hlt) xs.length 0 0 ps [] [] _ tk1 (by omega) (by rw [List.drop_zero]; exact hp) (by simp; omega) .nil ⟨od, es', epd, Heap.get?_push_of_some _ hD1, hrd⟩ hc (fun b o eb => Heap.get?_push_of_some _ (hkk b o eb)) fun h' tk' kvs' hd' he' hk' => ⟨rfl, ?_⟩
  obtain ⟨ep', hD'⟩ := hd'.dictAt
  have hlen : ∀ (ps es : List (Int × V)), (ps.foldl (fun es p => putE p.1 p.2 es) es).length ≤ es.length + ps.length := by
    intro ps
    induction ps with
    | nil => intro es; simp
    | cons p ps ih => intro es; have := ih (putE p.1 p.2 es); have := putE_len p.1 p.2 es; simp only [List.foldl_cons, List.length_cons]; omega
  have := hlen ps []
  exact after_made (ao := .dict _ ep') (tk := tk') G S hD0 hk' ⟨kvs', hD', he', S.base_none hD0, by simp at this; omega, new_low G S⟩ fun l hl => hq l hl ep'
end Mine
end
section
open PySem PySem.W PyProof.Rows PySem.SeqAt
set_option Elab.async false
set_option maxRecDepth 100000
namespace Mine
variable {κ : Kx} {Γ : Gx} {meths : List (PySem.Str × Addr)} {d : Nat} {env : Env} {vars : List (PySem.Str × Loc)}
theorem F.lookup_bytes : typeLookup (.type "bytes") "__bytes__" = pure (some (.builtin "bytes.__bytes__")) := by rw [typeLookup_type, builtinLookup_eq_fast]; kernel_rfl
theorem call_bytes_bytes {prog : Program} {w : World} {A : Around} {E : Value → Shared → Prop} {s : Shared} {b : Array UInt8} {t : Tok} {Q : Value → Shared → Prop} (hQ : Q (.bytes b t) s) :
    wpAny (model prog w) A (call (.type "bytes") [.bytes b t]) Q E s := by
  refine callType_codes (Q₁ := fun obj s₁ => s₁.TypeIs obj "bytes" ∧ Q obj s₁) F.bm_called (F.bm_typeCall _) F.entry_object_init ?_ fun obj s₁ h₁ => ?_
  · refine codeAny_of_tree ?_
    show wpAny _ A.in1.in1 (do checkBuiltinCall "bytes.__new__" ⟨[.type "bytes", .bytes b t], []⟩; again (.builtin "bytes.__new__" ⟨[.type "bytes", .bytes b t], []⟩)) _ _ s
    refine wpAny_bind (wpAny_of_eq (F.bm_newCall _) (wpAny_pure ⟨plainId_quiet F.bm_plain _, codeAny_builtin F.bm_entry ?_⟩))
    rw [Around.under_plainId F.bm_plain _]
    have hT : s.TypeIs (.bytes b t) "bytes" := PySem.W.typeIs_bytes _ _ _
    unfold Builtin.«bytes.__new__»
    refine wpAny_bind (wpAny_of_eq (a := true) rfl ?_)
    refine bm_if_false rfl ?_
    refine wpAny_bind (wpAny_of_eq F.bm_sub ?_)
    refine bm_if_false rfl ?_
    refine wpAny_bind (wpAny_of_eq (F.bm_bind _) ?_)
    refine wpAny_bind (wpAny_of_eq (a := ()) rfl ?_)
    refine wpAny_bind (wpAny_of_eq (a := ()) rfl ?_)
    refine bm_if_false rfl ?_
    refine wpAny_bind (wpAny_specialOf hT F.lookup_bytes ?_)
    refine wpAny_bind (wpAny_rule ?_)
    refine wpAny_bind (wpAny_typeOf hT ?_)
    refine bm_if_true (by decide +kernel) ?_
    exact wpAny_pure ⟨PySem.W.typeIs_bytes _ _ _, hQ⟩
  · exact ⟨h₁.1, F.args_object_init_2 obj _, object_init_meets F.bm_called.init.lookup F.bm_called.made (by decide) prog w A.in1 _ s₁ ⟨h₁.1, rfl, h₁.2⟩⟩
noncomputable def BI.val : BI → Value
  | .len => .builtin "len" | .sorted => .builtin "sorted" | .max => .builtin "max" | .dict => .type "dict" | .bytes => .type "bytes" | .list => .type "list" | .range => .type "range"
theorem octets_arr : ∀ {ks : List Int} {bs : List UInt8}, octets ks = some bs → (∀ n ∈ ks, 0 ≤ n ∧ n < 256) ∧ byteArr ks = bs.toArray ∧ ks.length = bs.length := by
  intro ks
  induction ks with
  | nil => intro bs e; cases e; exact ⟨(fun _ h => nomatch h), rfl, rfl⟩
  | cons k ks ih =>
    intro bs e
    unfold octets at e
    split at e
    · rename_i hk
      cases q : octets ks with
      | none => rw [q] at e; cases e
      | some bs' =>
        rw [q] at e; cases e
        obtain ⟨a, b, c⟩ := ih q
        refine ⟨fun n hn => ?_, ?_, by simp [c]⟩
        · rcases List.mem_cons.mp hn with rfl | hn
          · exact hk
          · exact a n hn
        · unfold byteArr at b ⊢
          rw [List.map_cons]
          have b' := congrArg Array.toList b
          simp at b'
          rw [b']
    · cases e
theorem items_range {n : Nat} {acc : Array Value} (h : ItemsOf (fun i v => ∃ t, v = Value.int ((0 : Int) + i * 1) t) acc n) : Vals acc.toList ((List.range n).map fun i => V.int (i : Nat)) := by
  have key : ∀ (l : List Value) (xs : List V), l.length = xs.length → (∀ (j : Nat) (v : Value), l[j]? = some v → ∃ x, xs[j]? = some x ∧ Is v x) → Vals l xs := by
    intro l
    induction l with
    | nil => intro xs e _; cases xs with | nil => exact .nil | cons => cases e
    | cons v l ih =>
      intro xs e hj
      cases xs with
      | nil => cases e
      | cons x xs =>
        obtain ⟨y, e1, hy⟩ := hj 0 v rfl
        simp at e1; subst e1
        exact .cons hy (ih xs (by simpa using e) fun j u hu => by simpa using hj (j + 1) u (by simpa using hu))
  refine key _ _ (by simp [h.1]) fun j v hv => ?_
  obtain ⟨t, rfl⟩ := h.2 j v (by simpa using hv)
  have hj : j < n := by
    have := (List.getElem?_eq_some_iff.mp hv).1
    rw [Array.length_toList, h.1] at this
    exact this
  refine ⟨.int (j : Nat), by simp [hj], ?_⟩
  have : (0 : Int) + (j : Nat) * 1 = (j : Nat) := by omega
  rw [this]
  exact .int _ _
theorem max_list {A : Around} {σ : Sto} {s : Shared} (G : GOk κ Γ meths d) (S : St κ σ s) (hh : A.handled = none) {l : Addr} {vs : List Value} {k : Int} {ks : List Int} {q : Post} (hl : s.heap.IsList l vs.toArray) (hI : IntsAre vs (k :: ks))
    (h : q (.int (ks.foldl max k)) σ) : Goes κ [] A (call (.builtin "max") [.ref l]) σ s (fun v σ' => ∃ x, Is v x ∧ q x σ') := by
  refine call_max_walk ?_
  have hlt : l < s.heap.objs.size := by obtain ⟨_, e, _⟩ := hl; exact Heap.lt_size e
  refine wpAny_pyIter_list hl ⟨s.heap.objs.size, _, _, _, _, _, _, rfl, Walks.list (A := A.in1) hh _ l (Nat.ne_of_lt hlt) vs.toArray, ⟨⟨_, Heap.get?_push_size _ rfl, rfl, rfl⟩, hl.push _⟩, fun b hb => ?_, by rw [List.size_toArray, hI.length]; exact Nat.succ_pos _,
    CmpOf.ints_gt (fun i => (k :: ks).getD i 0) (fun i v hv => hI.int_at i v (by simpa using hv)), fun v h' tk hv hk => ?_⟩
  · show b < (s.heap.push _).objs.size
    rw [Heap.size_push]
    rcases List.mem_cons.mp hb with rfl | hb
    · exact Nat.lt_succ_self _
    · rcases List.mem_cons.mp hb with rfl | hb
      · exact Nat.lt_succ_of_lt hlt
      · cases hb
  · rw [List.size_toArray, hI.length] at hv
    obtain ⟨t, e⟩ := hI.int_at _ v (by rw [List.getElem?_toArray] at hv; exact hv)
    rw [best_of rfl] at e
    subst e
    exact after_kept G S (tk := tk) (old_kept hk) ⟨_, .int _ _, h⟩
theorem small_0n {n : Nat} (h : n ≤ 1000) : Builtin.Range.small 0 n 1 = true := small_one (by omega) (by omega) (by omega) (by omega)
theorem bi_ok (G : GOk κ Γ meths d) {σ : Sto} {s : Shared} (S : St κ σ s) {A : Around} (r : Room A d) {f : BI} {x : V} {v : Value} {q : Post} (h : biW Γ f x q σ) (hv : Is v x) :
    Goes κ [] A (call f.val [v]) σ s (fun v σ' => ∃ x, Is v x ∧ q x σ') := by
  cases f with
  | len =>
    cases hv with
    | ref a =>
      obtain ⟨o, xs, e, ei, hr, ht, hq⟩ := h
      have Z := look_sits G S e
      cases o with
      | list m ys =>
        cases ei
        obtain ⟨vs, n, o1, hvs, _, hz⟩ := Z
        have hl : s.heap.IsList a vs.toArray := ⟨_, o1, rfl, _, rfl⟩
        refine Calls.call_len_list hl (by rw [List.size_toArray, hvs.length]; omega) ?_
        rw [List.size_toArray, hvs.length]
        exact After.tok S ⟨_, .int _ _, hq⟩
      | dict es ep =>
        cases ei
        obtain ⟨kvs, hd, he, _, hz, lo⟩ := Z
        refine call_len_dict lo hd.dictOf (by rw [he.length]; omega) ?_
        rw [he.length]
        rw [List.length_map] at hq
        exact After.tok S ⟨_, .int _ _, hq⟩
      | range n => exact absurd rfl (hr n)
      | tup ys => exact absurd rfl (ht ys)
      | _ => cases ei
    | _ => exact h.elim
  | sorted =>
    cases hv with
    | ref a =>
      obtain ⟨o, xs, ks, e, ei, hr, ht, hk, hz, hq⟩ := h
      have Z := look_sits G S e
      cases o with
      | list m ys =>
        cases ei
        obtain ⟨vs, n, o1, hvs, _, _⟩ := Z
        exact sorted_list G S ⟨_, o1, rfl, _, rfl⟩ (ints_are hvs hk) hz hq
      | dict es ep =>
        cases ei
        obtain ⟨kvs, hd, he, _, _, lo⟩ := Z
        have := keysOf_ints hk
        subst this
        rw [List.length_map] at hz
        rw [← he.keys] at hq
        exact sorted_dict G S r.handled hd lo (by rw [he.length]; exact hz) hq
      | range n => exact absurd rfl (hr n)
      | tup ys => exact absurd rfl (ht ys)
      | _ => cases ei
    | _ => exact h.elim
  | max =>
    cases hv with
    | ref a =>
      obtain ⟨o, xs, k, ks, e, ei, hr, ht, hk, hz, hq⟩ := h
      have Z := look_sits G S e
      cases o with
      | list m ys =>
        cases ei
        obtain ⟨vs, n, o1, hvs, _, _⟩ := Z
        have hI := ints_are hvs hk
        exact max_list G S r.handled ⟨_, o1, rfl, _, rfl⟩ hI hq
      | dict es ep =>
        cases ei
        obtain ⟨kvs, hd, he, _, _, lo⟩ := Z
        have hks := keysOf_ints hk
        have hl : (k :: ks).length = kvs.length := by rw [hks, he.length, List.length_map]
        refine max_ok G S r.handled (ns := k :: ks) (by rw [hl]; exact kdl_dict (knd := intKind κ.prog κ.w) (kvs := kvs) (ep := ep) lo) hd (fun i v hv => ?_) rfl hq
        obtain ⟨k', x', e1, hk'⟩ := hv
        obtain ⟨t, rfl⟩ := Value.isInt_shape hk'
        refine ⟨t, ?_⟩
        rw [hks, ← he.keys, List.getD_eq_getElem?_getD, List.getElem?_map, e1]
        rfl
      | range n => exact absurd rfl (hr n)
      | tup ys => exact absurd rfl (ht ys)
      | _ => cases ei
    | _ => exact h.elim
  | bytes =>
    cases hv with
    | bytes b t => exact call_bytes_bytes (After.now S ⟨_, .bytes _ _, h⟩)
    | ref a =>
      obtain ⟨m, xs, ks, bs, e, hk, ho, hz, hq⟩ := h
      obtain ⟨vs, n, o1, hvs, _, _⟩ := look_sits G S e
      have hI := ints_are hvs hk
      obtain ⟨b1, b2, b3⟩ := octets_arr ho
      refine call_bytes_ints ⟨_, o1, rfl, _, rfl⟩ hI b1 (by rw [hI.length, b3, sizeLine_eq]; omega) r.handled fun h' t k hk => ?_
      rw [b2]
      exact after_kept G S hk ⟨_, .bytes _ _, hq⟩
    | _ => exact h.elim
  | range =>
    cases hv with
    | int n t =>
      obtain ⟨h0, h1, hq⟩ := h
      refine call_range_1 ?_
      have e : ((n.toNat : Nat) : Int) = n := Int.toNat_of_nonneg h0
      refine after_made (ao := .range n.toNat) G S (fresh_none _) (fun b o eb => Heap.get?_push_of_some _ eb) ⟨s.toks, t, s.toks + 1, ?_⟩ hq
      rw [e]
      exact IsRange.new _ _ _ _ _ _ _
    | _ => exact h.elim
  | list =>
    cases hv with
    | ref a =>
      obtain ⟨o, xs, e, ei, hd, hz, hq⟩ := h
      have Z := look_sits G S e
      have seq : ∀ (T : String) (ob : Obj) (vs : List Value) (n : Nat), (T = "list" ∨ T = "tuple") → s.heap.get? a = some ob → ob.cls = .type T → ob.data = .seq vs.toArray n → Vals vs xs →
          Goes κ [] A (call (.type "list") [.ref a]) σ s (fun v σ' => ∃ x, Is v x ∧ q x σ') := by
        intro T ob vs n hT ho hc hdt hvs
        refine call_list_seq a hT ho hc hdt (fun h' c' k hn => ?_) (by rw [List.size_toArray, hvs.length, sizeLine_eq]; omega)
        exact after_made (ao := .list true xs) (tk := s.toks) G S (fresh_none _) k ⟨vs, c', hn, hvs, fun _ => S.base_none (fresh_none _), by omega⟩ hq
      cases o with
      | list m ys =>
        cases ei
        obtain ⟨vs, n, o1, hvs, _, _⟩ := Z
        exact seq "list" _ vs n (.inl rfl) o1 rfl rfl hvs
      | tup ys =>
        cases ei
        obtain ⟨vs, ⟨ob, o1, hc, n, hdt⟩, hvs⟩ := Z
        exact seq "tuple" ob vs n (.inr rfl) o1 hc hdt hvs
      | range n =>
        cases ei
        obtain ⟨t, u, v, hr⟩ := Z
        rw [List.length_map, List.length_range] at hz
        refine call_list_range r.handled hr ?_ (n := n) ?_ (by omega) fun h' tk acc c' k hn hI => ?_
        · exact small_0n (by omega)
        · rw [rangeSize_nat]; omega
        · exact after_made (ao := .list true _) (tk := tk) G S (fresh_none _) k ⟨acc.toList, c', by simpa using hn, items_range hI, fun _ => S.base_none (fresh_none _), by simp; omega⟩ hq
      | dict es ep => exact absurd rfl (hd es ep)
      | _ => cases ei
    | _ => exact h.elim
  | dict =>
    cases hv with
    | ref a =>
      unfold biW at h
      dsimp only at h
      split at h
      · rename_i es ep e
        obtain ⟨hz, hq⟩ := h
        obtain ⟨kvs, hd, he, _, _, lo⟩ := look_sits G S e
        refine kt_call_dict (knd := intKind κ.prog κ.w) lo hd.dictOf (by rw [he.length, sizeLine_eq]; omega) fun h' hD' hs => ?_
        obtain ⟨ep', hD⟩ := hD'.dictAt
        refine after_made (ao := .dict es ep') (tk := s.toks) G S (fresh_none _) (fun b o eb => hs.extBut b o (Nat.ne_of_lt (Heap.lt_size eb)) (Heap.get?_push_of_some _ eb)) ⟨kvs, hD, he, S.base_none (fresh_none _), by omega, new_low G S⟩ fun l hl => hq l hl ep'
      · rename_i m xs e
        obtain ⟨ps, hp, hz, hq⟩ := h
        exact call_dict_pairs G S r e hp hz hq
      · exact h.elim
    | _ => exact h.elim
end Mine
end
section
open PySem PySem.W PyProof.Rows PySem.SeqAt
set_option Elab.async false
set_option maxRecDepth 100000
namespace Mine
variable {κ : Kx} {Γ : Gx} {meths : List (PySem.Str × Addr)} {d : Nat} {env : Env} {vars : List (PySem.Str × Loc)}
theorem isStr_str (x y : PySem.Str) (t : Tok) : (Value.str x t).isStr y = (x == y) := rfl
theorem Flds.refs {P : Params} {ns : List PySem.Str} {es : List DictEntry} {fs : List V} (h : Flds P ns es fs) : es.any (·.refKey) = false := by
  induction h with
  | nil => rfl
  | cons _ _ ih => rw [List.any_cons, ih]; rfl
theorem Flds.len {P : Params} {ns : List PySem.Str} {es : List DictEntry} {fs : List V} (h : Flds P ns es fs) : es.length = fs.length ∧ fs.length ≤ ns.length := by
  induction h with
  | nil => exact ⟨rfl, Nat.zero_le _⟩
  | cons _ _ ih => simp [ih.1, ih.2]
theorem Flds.find_none {P : Params} {ns : List PySem.Str} {es : List DictEntry} {fs : List V} {name : PySem.Str} (h : Flds P ns es fs) (hn : ∀ i, ns[i]? = some name → fs.length ≤ i) : es.find? (·.key.isStr name) = none := by
  induction h with
  | nil => rfl
  | @cons n ns t v x es fs _ _ ih =>
    rw [List.find?_cons]
    have : n ≠ name := fun e => by have := hn 0 (by rw [e]; rfl); simp at this
    show (match (n == name) with | true => _ | false => _) = _
    rw [beq_false_of_ne this]
    exact ih fun i hi => by have := hn (i + 1) (by simpa using hi); simpa using this
theorem Flds.miss {P : Params} {ns : List PySem.Str} {es : List DictEntry} {fs : List V} {name : PySem.Str} (h : Flds P ns es fs) (hn : ∀ i, ns[i]? = some name → fs.length ≤ i) : getL name es = some none := by
  unfold getL
  rw [h.find_none hn]
  show (if es.any (·.refKey) = true then none else some none) = _
  rw [h.refs]; rfl
theorem Flds.get {P : Params} {ns : List PySem.Str} {es : List DictEntry} {fs : List V} (h : Flds P ns es fs) : ∀ {i : Nat} {name : PySem.Str} {x : V}, ns.Nodup → ns[i]? = some name → fs[i]? = some x → ∃ v, getL name es = some (some v) ∧ Is v x := by
  induction h with
  | nil => intro i name x _ _ e; simp at e
  | @cons n ns t v x es fs hv _ ih =>
    intro i name y hn e1 e2
    unfold getL
    rw [List.find?_cons, isStr_str]
    cases i with
    | zero => simp at e1 e2; subst e1 e2; rw [beq_self_eq_true]; exact ⟨v, rfl, hv⟩
    | succ i =>
      have hne : n ≠ name := fun e => (List.nodup_cons.mp hn).1 (e ▸ List.mem_of_getElem? (by simpa using e1))
      rw [beq_false_of_ne hne]
      obtain ⟨u, hu, iu⟩ := ih (i := i) (List.nodup_cons.mp hn).2 (by simpa using e1) (by simpa using e2)
      refine ⟨u, ?_, iu⟩
      unfold getL at hu
      dsimp only
      split at hu
      · rename_i en he; rw [he]; exact hu
      · split at hu <;> cases hu
theorem Flds.put {P : Params} {ns : List PySem.Str} {es : List DictEntry} {fs : List V} (h : Flds P ns es fs) : ∀ {i : Nat} {name : PySem.Str} {t : Tok} {v : Value} {x : V}, ns.Nodup → ns[i]? = some name → i ≤ fs.length → Is v x →
    Flds P ns (putL name (PyData.keyHash P name) (.str name t) v es) (putF fs i x) := by
  induction h with
  | @nil ns =>
    intro i name t v x _ e1 e2 hv
    have : i = 0 := by simpa using e2
    subst this
    cases ns with
    | nil => cases e1
    | cons n ns => simp at e1; subst e1; exact .cons hv .nil
  | @cons n ns t v x es fs hv hr ih =>
    intro i name t' u y hn e1 e2 hu
    unfold putL
    show Flds P _ (if (n == name) = true then _ else _) _
    cases i with
    | zero =>
      simp at e1; subst e1
      rw [if_pos (beq_self_eq_true _)]
      exact .cons hu hr
    | succ i =>
      have hne : n ≠ name := fun e => (List.nodup_cons.mp hn).1 (e ▸ List.mem_of_getElem? (by simpa using e1))
      rw [if_neg (by simpa using hne)]
      have z := ih (i := i) (t := t') (List.nodup_cons.mp hn).2 (by simpa using e1) (by simpa using e2) hu
      have e : putF (x :: fs) (i + 1) y = x :: putF fs i y := by
        unfold putF
        by_cases q : i < fs.length
        · rw [if_pos q, if_pos (by simpa using q)]; rfl
        · rw [if_neg q, if_neg (by simpa using q)]; rfl
      rw [e]
      exact .cons hv z
theorem osa_raw {prog : Program} {w : World} {A : Around} {s : Shared} {K : Frag} {R : Result → Shared → Prop} {x C dx : Addr} {es : List DictEntry} {n : Nat} {name : PySem.Str} {tk : Tok} {v : Value} (X : K.In s.heap)
    (I : InstAt s.heap x (instObj C dx) C (some (dictOf es n))) (hp : plainOver K C = true) (ht : takerIn K C name = some none) (hh : (clsIn K C).any (·.hasDict) = true)
    (hl : (getL name es).isSome = true) (hz : (putL name (PyData.keyHash w.params name) (.str name s.toks) v es).length ≤ 1000)
    (h : ∀ h', h'.get? dx = some (dictOf (putL name (PyData.keyHash w.params name) (.str name s.toks) v es) (putN name es n)) → Heap.SameBut dx s.heap h' → R (.ok (.ret .none)) { s with heap := h', toks := s.toks + 1 }) :
    codeAny (model prog w) A (.call (.builtin "object.__setattr__") ⟨[.ref x, .str name tk, v], []⟩) R s := by
  refine osa_open X I hp ht fun b => ?_
  obtain ⟨cd, hc, hd'⟩ := any_some hh
  obtain ⟨hx, hcl, hn, D⟩ := I
  have D : s.heap.get? dx = some (dictOf es n) := D
  have D' : (s.heap.update dx (Obj.putName name (PyData.keyHash w.params name) (.str name s.toks) v)).get? dx = some (dictOf (putL name (PyData.keyHash w.params name) (.str name s.toks) v es) (putN name es n)) := by
    rw [Heap.get?_update_self _ D (by rw [putName_dict]; rfl), putName_dict]
  refine wpAny_bind (wpAny_pure (wpAny_bind (wpAny_bind (wpAny_loadPart hx (wpAny_bind ((looks_clsIn X hc).here ?_))))))
  rw [hd']
  refine wpAny_pure (a := some dx) (wpAny_bind (wpAny_pure (wpAny_bind ?_)))
  unfold nsSet
  refine wpAny_bind (wpAny_bind (wpAny_askSetting (wpAny_pure (wpAny_bind (wpAny_mkText (wpAny_bind (wpAny_loadPart D ?_)))))))
  dsimp only
  have c : (!es.any (·.key.isStr name) && es.any (·.refKey)) = false := by
    unfold getL at hl
    split at hl
    · rename_i en he
      rw [List.any_eq_true.mpr ⟨en, List.mem_of_find?_eq_some he, List.find?_some he⟩]; rfl
    · split at hl
      · cases hl
      · rename_i z; rw [Bool.not_eq_true] at z; rw [z, Bool.and_false]
  have c' : (!es.toArray.any (·.key.isStr name) && es.toArray.any (·.refKey)) = false := by
    rw [← Array.any_toList, ← Array.any_toList]; exact c
  rw [aRefKeyMayBeTheName_at, c']
  refine wpAny_updatePart D ?_
  refine wpAny_bind (wpAny_lookBehind D' (by rw [show (dictOf (putL name (PyData.keyHash w.params name) (.str name s.toks) v es) (putN name es n)).data = .dict _ _ from rfl]; exact pastItsLine_dict (by rw [List.size_toArray, sizeLine_eq]; omega)) ?_)
  exact wpAny_pure (h _ D' (Heap.SameBut.update ..))
theorem inst_at {σ : Sto} {h : Heap} {a c : Addr} {fs : List V} (Z : Sits κ σ h a (.inst c fs)) : ∃ dx es n, InstAt h a (instObj c dx) c (some (dictOf es n)) ∧ Flds κ.w.params κ.names es fs ∧ σ dx = some (.priv a) ∧ κ.base.get? dx = none := by
  obtain ⟨dx, es, n, e1, e2, f, p, b⟩ := Z
  exact ⟨dx, es, n, ⟨e1, rfl, rfl, e2⟩, f, p, b⟩
structure ClsOk (κ : Kx) (Γ : Gx) (meths : List (PySem.Str × Addr)) : Prop where
  has : hasDictIn κ.K Γ.cls = true
  plain : plainOver κ.K Γ.cls = true
  setter : findIn κ.K (.ref Γ.cls) "__setattr__" = some (some (.builtin "object.__setattr__"))
  name : ∀ (i : Nat) (n : PySem.Str), κ.names[i]? = some n → nameOk κ.K Γ.cls n = true
  meth : ∀ (i : Nat) (p : PySem.Str × Addr), meths[i]? = some p → methOk κ.K Γ.cls κ.names p = true
  nodup : κ.names.Nodup
  few : κ.names.length ≤ 100
theorem GOk.clsOk (G : GOk κ Γ meths d) : ClsOk κ Γ meths := by
  have := G.cls
  unfold Mine.clsOk at this
  simp only [Bool.and_eq_true, beq_iff_eq, decide_eq_true_eq, List.all_eq_true] at this
  obtain ⟨⟨⟨⟨⟨⟨a, b⟩, c⟩, e⟩, f⟩, g⟩, h⟩ := this
  exact ⟨a, b, c, fun i n hn => e n (List.mem_of_getElem? hn), fun i p hp => f p (List.mem_of_getElem? hp), g, h⟩
theorem GOk.X (G : GOk κ Γ meths d) {σ : Sto} {s : Shared} (S : St κ σ s) : κ.K.In s.heap := fun b o e => S.base _ _ (G.ok.X b o e)
theorem Is.handed {v : Value} {x : V} (h : Is v x) : handedIn v = true := by cases h <;> rfl
theorem se_attr (G : GOk κ Γ meths d) {e : PySem.Expr} {n : PySem.Str} {pos : Pos} {pe : PE} {i : Nat} (hb : attributeBase e n env (eval e env) = eval e env) (hi : κ.names[i]? = some n) (he : SE κ d env vars e (wpE Γ pe)) :
    SE κ d env vars (.Attribute e n pos) (wpE Γ (.attr pe i)) := by
  rintro A s σ ε q r S F hq
  unfold Goes
  rw [arm_eval_Attribute, hb]
  refine wpAny_bind (wpAny_mono (he A s σ ε _ r S F hq) (fun v s1 zz => ?_) fun _ _ z => z)
  obtain ⟨σ1, w1, S1, x, ix, a, fs, y, e1, e2, e3, q1⟩ := zz
  subst e1
  cases ix
  have C := G.clsOk
  obtain ⟨dx, es, m, I, f, _⟩ := inst_at (S1.sits _ _ e2)
  obtain ⟨u, hu, iu⟩ := f.get C.nodup hi e3
  have N := C.name i n hi
  simp only [nameOk, Bool.and_eq_true, beq_iff_eq] at N
  obtain ⟨⟨N1, N2⟩, _⟩ := N
  obtain ⟨attr, N3, N4⟩ : ∃ attr, findIn κ.K (.ref Γ.cls) n = some attr ∧ noGet κ.K attr = true := by
    cases q : findIn κ.K (.ref Γ.cls) n with
    | none => rw [q] at N2; cases N2
    | some z => rw [q] at N2; exact ⟨z, rfl, N2⟩
  refine wpAny_bind (wpAny_standAt (wpAny_bind (wpAny_holding (get_value (G.X S1) I (plainGet_of N1).1 (findObj_own C.has N3 N4 (by rw [lookIn_dict]; exact hu)) iu.handed ?_))))
  refine wpAny_bind (wpAny_letTemporaryGo (wpAny_pure ?_))
  exact After.up w1 (After.tok S1 ⟨_, iu, q1⟩)
theorem put_ok (G : GOk κ Γ meths d) {σ : Sto} {s : Shared} (S : St κ σ s) {A : Around} {E : Value → Shared → Prop} {a : Addr} {fs : List V} {i : Nat} {n : PySem.Str} {v : Value} {x : V} {Q : Unit → Shared → Prop} (e2 : σ a = some (.inst Γ.cls fs)) (hi : κ.names[i]? = some n) (hl : i ≤ fs.length) (hv : Is v x)
    (h : ∀ h' tk, St κ (σ.set a (.inst Γ.cls (putF fs i x))) { s with heap := h', toks := tk } → Fut [] σ s.heap (σ.set a (.inst Γ.cls (putF fs i x))) h' → Q () { s with heap := h', toks := tk }) :
    wpAny (model κ.prog κ.w) A (setAttr (.ref a) n v) Q E s := by
  have C := G.clsOk
  obtain ⟨dx, es, m, I, f, hp, hbd⟩ := inst_at (S.sits _ _ e2)
  have N := C.name i n hi
  simp only [nameOk, Bool.and_eq_true, beq_iff_eq] at N
  obtain ⟨_, N2⟩ := N
  have hg : (getL n es).isSome = true := by
    by_cases q : i < fs.length
    · obtain ⟨u, hu, _⟩ := f.get C.nodup hi (List.getElem?_eq_getElem q); rw [hu]; rfl
    · rw [f.miss fun j hj => ?_]; · rfl
      have := (List.getElem?_inj (List.getElem?_eq_some_iff.mp hi).1 C.nodup).mp (hi.trans hj.symm)
      omega
  have f' := f.put (t := s.toks + 1) C.nodup hi hl hv
  refine set_plain (G.X S) I C.setter (osa_raw (s := { s with toks := s.toks + 1 }) (G.X (S.tok _)) I C.plain N2 C.has hg (by rw [f'.len.1]; have := f'.len.2; have := C.few; omega) fun h' hd' hs => ?_)
  have z := S.turn G.ok (h' := h') (tk := s.toks + 2) (a := a) (d := dx) (ao' := .inst Γ.cls (putF fs i x)) e2 (fun o => nofun) (.inr hp) hbd (fun b o hb e => hs.extBut b o hb e) ⟨_, hd'⟩ ?_ fun o => nofun
  · exact h _ _ z.1 z.2
  · have hne : a ≠ dx := fun e => by rw [e, hp] at e2; cases e2
    refine ⟨dx, _, _, hs.extBut a _ hne I.at_, hd', f', ?_, hbd⟩
    rw [Sto.set_ne _ _ (Ne.symm hne)]; exact hp
end Mine
end
section
open PySem PySem.W PyProof.Rows PySem.SeqAt
set_option Elab.async false
set_option maxRecDepth 100000
namespace Mine
variable {κ : Kx} {Γ : Gx} {meths : List (PySem.Str × Addr)} {d : Nat} {env : Env} {vars : List (PySem.Str × Loc)}
theorem delE_len (k : Int) : ∀ es : List (Int × V), (delE k es).length ≤ es.length
  | [] => Nat.le_refl _
  | p :: r => by
    unfold delE
    split
    · simp
    · have := delE_len k r; simp; omega
theorem Ents.without {kvs : List (Int × Value)} {es : List (Int × V)} {k : Int} (h : Ents kvs es) (hn : (kvs.map (·.1)).Nodup) : Ents (without kvs k) (delE k es) := by
  induction h with
  | nil => exact .nil
  | @cons k' u y es fs hu hr ih =>
    have hn' := List.nodup_cons.mp hn
    unfold PySem.without delE
    dsimp only
    by_cases e : k' = k
    · subst e
      rw [if_pos rfl, List.filter_cons_of_neg (by simp)]
      have := without_of_not_mem es k' hn'.1
      unfold PySem.without at this
      rw [this]; exact hr
    · rw [if_neg e, List.filter_cons_of_pos (by simpa using e)]
      exact .cons hu (ih hn'.2)
theorem dict_turn (G : GOk κ Γ meths d) {σ : Sto} {s : Shared} (S : St κ σ s) {a : Addr} {es es' : List (Int × V)} {ep : Nat} {kvs' : List (Int × Value)} {h' : Heap} {tk : Nat} (e : σ a = some (.dict es ep)) (hD : h'.DictOf (intKind κ.prog κ.w) a kvs') (hs : Heap.SameBut a s.heap h')
    (he : Ents kvs' es') (hz : es'.length ≤ 1000000) : ∃ ep', St κ (σ.set a (.dict es' ep')) { s with heap := h', toks := tk } ∧ Fut [] σ s.heap (σ.set a (.dict es' ep')) h' := by
  obtain ⟨kvs, _, _, hb, _, lo⟩ := S.sits _ _ e
  obtain ⟨ep', hD'⟩ := hD.dictAt
  have ho : ∃ o, h'.get? a = some o := let ⟨o, _, eo, _⟩ := hD'; ⟨o, eo⟩
  exact ⟨ep', S.turn G.ok (tk := tk) e (fun o => nofun) (.inl rfl) hb (fun b o hb e => hs.extBut b o hb e) ho ⟨kvs', hD', he, hb, hz, lo⟩ fun o => nofun⟩
theorem list_turn (G : GOk κ Γ meths d) {σ : Sto} {s : Shared} (S : St κ σ s) {a : Addr} {xs ys : List V} {us : List Value} {n : Nat} {h' : Heap} {tk : Nat} (e : σ a = some (.list true xs)) (hl : h'.get? a = some (listOf us.toArray n)) (hs : Heap.SameBut a s.heap h') (hv : Vals us ys) (hz : ys.length ≤ 1000000) :
    St κ (σ.set a (.list true ys)) { s with heap := h', toks := tk } ∧ Fut [] σ s.heap (σ.set a (.list true ys)) h' := by
  obtain ⟨vs, _, _, _, hb, _⟩ := S.sits _ _ e
  exact S.turn G.ok (tk := tk) e (fun o => nofun) (.inl rfl) (hb rfl) (fun b o hb e => hs.extBut b o hb e) ⟨_, hl⟩ ⟨us, n, hl, hv, hb, hz⟩ fun o => nofun
theorem set_item (G : GOk κ Γ meths d) {σ : Sto} {s : Shared} (S : St κ σ s) {A : Around} {E : Value → Shared → Prop} {a : Addr} {es : List (Int × V)} {ep : Nat} {k : Int} {t : Tok} {v : Value} {x : V} {Q : Unit → Shared → Prop} (e : σ a = some (.dict es ep)) (hz : es.length ≤ 10000) (hv : Is v x)
    (h : ∀ h' tk ep', St κ (σ.set a (.dict (putE k x es) ep')) { s with heap := h', toks := tk } → Fut [] σ s.heap (σ.set a (.dict (putE k x es) ep')) h' → Q () { s with heap := h', toks := tk }) :
    wpAny (model κ.prog κ.w) A (setItem (.ref a) (.int k t) v) Q E s := by
  obtain ⟨kvs, hd, he, hb, _, lo⟩ := S.sits _ _ e
  refine wpAny_setItem_pairs (knd := intKind κ.prog κ.w) (k := k) (isInt_is (t := t)) hd.dictOf (fun h' hD hs => ?_) (by rw [he.length, sizeLine_eq]; omega)
  obtain ⟨ep', x1, x2⟩ := dict_turn G S (tk := s.toks + 1) e hD hs (he.stored (DictAt.nodup hd) hv) (by have := putE_len k x es; omega)
  exact h _ _ _ x1 x2
theorem erase_arr {vs : List Value} {k : Nat} (_hk : k < vs.length) : vs.toArray.eraseIdxIfInBounds k = (vs.eraseIdx k).toArray := by
  simp
theorem Vals.erase {vs : List Value} {xs : List V} (h : Vals vs xs) : ∀ k : Nat, Vals (vs.eraseIdx k) (xs.eraseIdx k) := by
  induction h with
  | nil => intro k; exact .nil
  | cons h1 h2 ih => intro k; cases k with | zero => exact h2 | succ k => exact .cons h1 (ih k)
noncomputable def BM.nm : BM → PySem.Str
  | .append => "append" | .popL => "pop" | .popD => "pop" | .clear => "clear"
noncomputable def BM.id : BM → String
  | .append => "list.append" | .popL => "list.pop" | .popD => "dict.pop" | .clear => "dict.clear"
noncomputable def BM.ty : BM → String
  | .append => "list" | .popL => "list" | .popD => "dict" | .clear => "dict"
theorem BM.facts (f : BM) : PlainAttrs f.ty ∧ Slot f.ty f.nm f.id ∧ typeOf (.builtin f.id) = pure (.type "method_descriptor") := by
  cases f with
  | append => exact ⟨PySem.F.plainAttrs_list, PySem.F.slot_list_append, PySem.F.type_list_append⟩
  | popL => exact ⟨PySem.F.plainAttrs_list, PySem.F.slot_list_pop, PySem.F.type_list_pop⟩
  | popD => exact ⟨PySem.F.plainAttrs_dict, PySem.F.slot_dict_pop, PySem.F.type_dict_pop⟩
  | clear => exact ⟨PySem.F.plainAttrs_dict, PySem.F.slot_dict_clear, PySem.F.type_dict_clear⟩
theorem BM.here {σ : Sto} {s : Shared} (S : St κ σ s) {f : BM} {v : Value} {x : V} (hv : Is v x) (h : bmOn f x σ) : ∃ a, v = .ref a ∧ x = .ref a ∧ s.TypeIs (.ref a) f.ty ∧ ∃ ob, s.heap.get? a = some ob ∧ ob.dict = none := by
  have list : ∀ a xs, σ a = some (.list true xs) → s.TypeIs (.ref a) "list" ∧ ∃ ob, s.heap.get? a = some ob ∧ ob.dict = none := fun a xs e => by
    obtain ⟨vs, n, o1, _⟩ := S.sits _ _ e
    exact ⟨⟨_, o1, rfl⟩, _, o1, rfl⟩
  have dict : ∀ a es ep, σ a = some (.dict es ep) → s.TypeIs (.ref a) "dict" ∧ ∃ ob, s.heap.get? a = some ob ∧ ob.dict = none := fun a es ep e => by
    obtain ⟨kvs, hd, _⟩ := S.sits _ _ e
    refine ⟨hd.dictOf.typeIs, ?_⟩
    obtain ⟨o, _, e1, e2, _⟩ := hd
    exact ⟨o, e1, e2.2.1⟩
  cases f <;> cases hv <;> first | exact h.elim | skip
  · obtain ⟨xs, e⟩ := h; exact ⟨_, rfl, rfl, list _ xs e⟩
  · obtain ⟨xs, e⟩ := h; exact ⟨_, rfl, rfl, list _ xs e⟩
  · obtain ⟨es, ep, e⟩ := h; exact ⟨_, rfl, rfl, dict _ es ep e⟩
  · obtain ⟨es, ep, e⟩ := h; exact ⟨_, rfl, rfl, dict _ es ep e⟩
theorem bm_call (G : GOk κ Γ meths d) {σ : Sto} {s : Shared} (S : St κ σ s) {A : Around} {f : BM} {a : Addr} {args : List Value} {xs : List V} {q : Post} (h : bmW Γ f (.ref a) xs q σ) (hv : Vals args xs) :
    Goes κ [] A (call (.builtin f.id) (.ref a :: args)) σ s (fun v σ' => ∃ x, Is v x ∧ q x σ') := by
  cases f with
  | append =>
    cases hv with
    | nil => exact h.elim
    | cons iv hr =>
      cases hr with
      | cons _ _ => exact h.elim
      | nil =>
        obtain ⟨ys, e, hz, hq⟩ := h
        obtain ⟨vs, n, o1, hvs, hb, _⟩ := S.sits _ _ e
        refine wpAny_list_append_plain ⟨n, o1⟩ (fun h' hp hs => ?_) (by rw [List.size_toArray, hvs.length, sizeLine_eq]; omega)
        obtain ⟨n', hp⟩ := hp
        rw [List.push_toArray] at hp
        obtain ⟨x1, x2⟩ := list_turn G S (tk := s.toks) e hp hs (hvs.append (.cons iv .nil)) (by rw [List.length_append]; show _ + 1 ≤ _; omega)
        exact ⟨_, Way.of' x2, x1, _, .none, hq⟩
  | popL =>
    cases hv with
    | nil => exact h.elim
    | cons iv hr =>
      cases hr with
      | cons _ _ => cases iv <;> exact h.elim
      | nil =>
        cases iv with
        | int k t =>
          obtain ⟨ys, e, h0, y, hy, hz, hq⟩ := h
          obtain ⟨vs, n, o1, hvs, hb, _⟩ := S.sits _ _ e
          obtain ⟨v, hv, iv⟩ := get_back hvs hy
          have hlt : k.toNat < vs.toArray.size := (Array.getElem?_eq_some_iff.mp hv).1
          have hsz : vs.toArray.size = ys.length := by rw [List.size_toArray, hvs.length]
          have hf : Builtin.List.listFitsIndex k = true := by
            unfold Builtin.List.listFitsIndex
            simp
            omega
          refine call_meets PySem.F.slot_list_pop ⟨_, o1, rfl⟩ PySem.F.entry_list_pop (PySem.F.args_list_pop_2 _ _) (PySem.MeetsSeq.list_pop_at a _ n k t _ v hf (seqIndex_of h0 (by omega)) hv (by rw [hsz, sizeLine_eq]; omega)) ⟨o1, ?_⟩
          have q := PySem.IsL.update o1 (fun xs => xs.eraseIdxIfInBounds k.toNat)
          rw [erase_arr (by simpa using hlt)] at q
          obtain ⟨x1, x2⟩ := list_turn G S (tk := s.toks) e q (Heap.SameBut.update ..) (hvs.erase _) (by have := List.length_eraseIdx_le ys k.toNat; omega)
          exact ⟨_, Way.of' x2, x1, _, iv, hq⟩
        | _ => exact h.elim
  | popD =>
    cases hv with
    | nil => exact h.elim
    | cons iv hr =>
      cases hr with
      | cons _ _ => cases iv <;> exact h.elim
      | nil =>
        cases iv with
        | int k t =>
          obtain ⟨es, ep, e, y, hy, hz, hq⟩ := h
          obtain ⟨kvs, hd, he, hb, _, lo⟩ := S.sits _ _ e
          obtain ⟨v, hv, iv⟩ := (he.valueAt k).2 y hy
          refine call_meetsIn PySem.F.slot_dict_pop hd.dictOf.typeIs PySem.F.entry_dict_pop (PySem.F.args_dict_pop_2 _ _) (meets_dict_pop_there (intKind κ.prog κ.w) a (k := k) (key := .int k t) (isInt_is (t := t)) [] (.inl rfl) rfl) ⟨kvs, v, hd.dictOf, by rw [he.length, sizeLine_eq]; omega, hv, fun h' hD hs => ?_⟩
          obtain ⟨ep', x1, x2⟩ := dict_turn G S (tk := s.toks + 1) e hD hs (he.without (DictAt.nodup hd)) (by have := delE_len k es; omega)
          exact ⟨_, Way.of x2, x1, _, iv, hq ep'⟩
        | _ => exact h.elim
  | clear =>
    cases hv with
    | cons _ _ => exact h.elim
    | nil =>
      obtain ⟨es, ep, e, hq⟩ := h
      obtain ⟨kvs, hd, he, hb, hz, lo⟩ := S.sits _ _ e
      refine call_meetsIn PySem.F.slot_dict_clear hd.dictOf.typeIs PySem.F.entry_dict_clear (PySem.F.args_dict_clear_1 _) (meets_dict_clear (intKind κ.prog κ.w) a) ⟨kvs, hd.dictOf, by rw [he.length, sizeLine_eq]; omega, fun h' hD hs => ?_⟩
      obtain ⟨ep', x1, x2⟩ := dict_turn G S (tk := s.toks) e hD hs .nil (Nat.zero_le _)
      exact ⟨_, Way.of' x2, x1, _, .none, hq ep'⟩
end Mine
end
section
open PySem PySem.W PyProof.Rows PySem.SeqAt
set_option Elab.async false
set_option maxRecDepth 100000
namespace Mine
variable {κ : Kx} {Γ : Gx} {meths : List (PySem.Str × Addr)} {d : Nat} {env : Env} {vars : List (PySem.Str × Loc)}
theorem args_go {M : Model} {A : Around} {E : Value → Shared → Prop} {s : Shared} {f : Value} {trees : List (Bool × Sem Value)} {Q : Args → Shared → Prop} (hp : trees.any (·.1) = false)
    (h : wpAny M A (spliced trees) (fun vs s' => Q ⟨vs, []⟩ s') E s) : wpAny M A (evalArgs f true trees []) Q E s := by
  unfold evalArgs
  cases trees with
  | nil =>
    show wpAny M A (spliced [] >>= _) Q E s
    refine wpAny_bind (wpAny_mono h (fun vs s' h' => ?_) fun _ _ x => x)
    refine wpAny_bind (wpAny_pure (wpAny_holding ?_))
    exact wpAny_bind (wpAny_pure (wpAny_bind (wpAny_pure (wpAny_pure h'))))
  | cons p rest =>
    obtain ⟨b, x⟩ := p
    cases b with
    | true => simp at hp
    | false =>
      show wpAny M A (spliced ((false, x) :: rest) >>= _) Q E s
      refine wpAny_bind (wpAny_mono h (fun vs s' h' => ?_) fun _ _ x => x)
      refine wpAny_holding ?_
      exact wpAny_bind (wpAny_pure (wpAny_bind (wpAny_pure (wpAny_pure h'))))
noncomputable def notStar : PySem.Expr → Bool
  | .Starred _ _ => false
  | _ => true
theorem star_cons {e : PySem.Expr} {es : List PySem.Expr} (h : notStar e = true) (env : Env) : starEach (e :: es) env = (false, eval e env) :: starEach es env := by
  cases e <;> first | rfl | cases h
theorem star_all : ∀ {es : List PySem.Expr}, es.all notStar = true → ∀ (env : Env) (pos : Pos), (backTo pos (starEach es env)).any (·.1) = false
  | [], _, _, _ => rfl
  | e :: es, h, env, pos => by
    have h' := Bool.and_eq_true_iff.mp h
    rw [star_cons h'.1]
    show (false || (backTo pos (starEach es env)).any (·.1)) = false
    rw [star_all h'.2]; rfl
theorem star_form : ∀ {es : List PySem.Expr}, es.all notStar = true → ∀ (env : Env) (pos : Pos), (backTo pos (starEach es env)).all (fun x => !x.1) = true
  | [], _, _, _ => rfl
  | e :: es, h, env, pos => by
    have h' := Bool.and_eq_true_iff.mp h
    rw [star_cons h'.1]
    show (true && (backTo pos (starEach es env)).all (fun x => !x.1)) = true
    rw [star_form h'.2]; rfl
theorem go_args {f : Value} {first : List Value} {es : List PySem.Expr} {w : (List V → Sto → Prop) → Env0 → Sto → Prop} {P : Heap → Prop} (hst : es.all notStar = true) (h : SEs κ d env vars es w)
    (hk : ∀ h, P h → ∃ k, (k = Keeper.frame ∨ k = Keeper.machine ∨ k = Keeper.boundFrame) ∧ Looks (model κ.prog κ.w) h (keeperOf f) k)
    {A : Around} {s : Shared} {σ : Sto} {ε : Env0} {q : List V → Sto → Prop} {R : Value → Sto → Prop} {pos : Pos} (r : Room A d) (S : St κ σ s) (F : FrameSt vars ε σ s.heap) (hw : w q ε σ)
    (hc : ∀ vs xs s1 σ1, Way [] σ s σ1 s1 → St κ σ1 s1 → Vals vs xs → q xs σ1 → P s1.heap ∧ Goes κ [] A (call f (first ++ vs)) σ1 s1 R) :
    Goes κ [] A (callWith pos f first (backTo pos (starEach es env)) []) σ s R := by
  refine callWith_of (P := P) (by rw [star_all hst]; rfl) hk (args_go (star_all hst env pos) (wpAny_mono (h A s σ ε q pos r S F hw) (fun vs s1 zz => ?_) fun _ _ z => z))
  obtain ⟨σ1, w1, S1, xs, hv, _, q1⟩ := zz
  obtain ⟨a, b⟩ := hc vs xs s1 σ1 w1 S1 hv q1
  exact ⟨a, Goes.up w1 b⟩
theorem Call_args {x : PySem.Str} {p pos : Pos} {es : List PySem.Expr} {M : Model} {A : Around} {E : Value → Shared → Prop} {s : Shared} {Q : Value → Shared → Prop}
    (h : wpAny M A (eval (.Name x p) env) (fun f s₁ => wpAny M A (callWith pos f [] (backTo pos (starEach es env)) []) Q E s₁) E s) : wpAny M A (eval (.Call (.Name x p) es [] pos) env) Q E s := Call_Name rfl h
noncomputable def BI.nm : BI → PySem.Str
  | .len => "len" | .sorted => "sorted" | .max => "max" | .dict => "dict" | .bytes => "bytes" | .list => "list" | .range => "range"
theorem BI.boot (f : BI) : bootBuiltins f.nm = some f.val ∧ f.nm ≠ "__name__" ∧ (f.nm == ("__debug__" : PySem.Str)) = false := by
  cases f
  · exact ⟨boot_len, by decide, by decide⟩
  · exact ⟨by decide +kernel, by decide, by decide⟩
  · exact ⟨boot_max, by decide, by decide⟩
  · exact ⟨(by decide +kernel), by decide, by decide⟩
  · exact ⟨by decide +kernel, by decide, by decide⟩
  · exact ⟨(by decide +kernel), by decide, by decide⟩
  · exact ⟨boot_range, by decide, by decide⟩
theorem name_boot {ce : CEnv} (G : GOk κ Γ meths d) (eo : EnvOk env ce vars) {f : BI} {pos : Pos} {A : Around} {s : Shared} {σ : Sto} {E : Value → Shared → Prop} {Q : Value → Shared → Prop} (S : St κ σ s) (hl : ce.names.lookup f.nm = some .globalImplicit)
    (hg : nsIn κ.K mainGlobals f.nm = some none) (h : Q f.val s) : wpAny (model κ.prog κ.w) A (eval (.Name f.nm pos) env) Q E s := by
  have T := G.ok.T.keeps (fun b o e => S.base b o e)
  obtain ⟨b1, b2, b3⟩ := f.boot
  refine Calls.Name_function_global eo.kind (by unfold Env.kindOf; rw [eo.names]; exact hl) (Calls.loadGlobal_builtin (mg := κ.mg) (mb := κ.mb) (by rw [eo.globals]; exact T.g) (mg_none_of (G.X S) T.g hg) (by rw [eo.builtins]; exact T.b) ((T.builtins _ b2).trans b1) h) b3
theorem se_bi {ce : CEnv} (G : GOk κ Γ meths d) (eo : EnvOk env ce vars) {f : BI} {p pos : Pos} {e : PySem.Expr} {pe : PE} (hl : ce.names.lookup f.nm = some .globalImplicit) (hg : nsIn κ.K mainGlobals f.nm = some none) (hst : notStar e = true)
    (he : SE κ d env vars e (wpE Γ pe)) : SE κ d env vars (.Call (.Name f.nm p) [e] [] pos) (wpE Γ (.bi f pe)) := by
  rintro A s σ ε q r S F hq
  refine Call_args (name_boot G eo S hl hg ?_)
  have hst' : [e].all notStar = true := by simp [hst]
  have hs := ses_cons (star_cons (es := []) hst env) he (ses_nil (κ := κ) (Γ := Γ) (d := d) (env := env) (vars := vars))
  have key := hs A s σ ε (fun xs σ' => ∃ x, xs = [x] ∧ biW Γ f x q σ') pos r S F (by
    show wpE Γ pe (fun x σ' => ∃ y, [x] = [y] ∧ biW Γ f y q σ') ε σ
    exact cast (congrArg (fun z => wpE Γ pe z ε σ) (funext fun x => funext fun σ' => propext ⟨fun h => ⟨x, rfl, h⟩, fun ⟨y, e, h⟩ => by cases e; exact h⟩)) hq)
  have fin : ∀ vs s1, After κ [] σ s (fun vs σ' => ∃ xs, Vals vs xs ∧ vs.length = [e].length ∧ ∃ x, xs = [x] ∧ biW Γ f x q σ') vs s1 → wpAny (model κ.prog κ.w) A (call f.val vs) (After κ [] σ s fun v σ' => ∃ x, Is v x ∧ q x σ') noE s1 := by
    rintro vs s1 ⟨σ1, w1, S1, xs, hv, _, x, rfl, hb⟩
    cases hv with
    | cons iv hr => cases hr; exact Goes.up w1 (bi_ok G S1 r hb iv)
  have b : ∀ id, wpAny (model κ.prog κ.w) A (evalArgs (.builtin id) true (backTo pos (starEach [e] env)) []) (fun a s₁ => ∃ vs, a = ⟨vs, []⟩ ∧ After κ [] σ s (fun vs σ' => ∃ xs, Vals vs xs ∧ vs.length = [e].length ∧ ∃ x, xs = [x] ∧ biW Γ f x q σ') vs s₁) noE s :=
    fun id => args_go (star_all hst' env pos) (wpAny_mono key (fun vs s1 h => ⟨vs, rfl, h⟩) fun _ _ z => z)
  have t : ∀ T, wpAny (model κ.prog κ.w) A (evalArgs (.type T) true (backTo pos (starEach [e] env)) []) (fun a s₁ => ∃ vs, a = ⟨vs, []⟩ ∧ After κ [] σ s (fun vs σ' => ∃ xs, Vals vs xs ∧ vs.length = [e].length ∧ ∃ x, xs = [x] ∧ biW Γ f x q σ') vs s₁) noE s :=
    fun id => args_go (star_all hst' env pos) (wpAny_mono key (fun vs s1 h => ⟨vs, rfl, h⟩) fun _ _ z => z)
  cases f with
  | len => exact Calls.callWith_builtin (star_all hst' env pos) (wpAny_mono (b "len") (fun a s1 ⟨vs, e, h⟩ => by subst e; exact fin vs s1 h) fun _ _ z => z)
  | sorted => exact Calls.callWith_builtin (star_all hst' env pos) (wpAny_mono (b "sorted") (fun a s1 ⟨vs, e, h⟩ => by subst e; exact fin vs s1 h) fun _ _ z => z)
  | max => exact Calls.callWith_builtin (star_all hst' env pos) (wpAny_mono (b "max") (fun a s1 ⟨vs, e, h⟩ => by subst e; exact fin vs s1 h) fun _ _ z => z)
  | dict => exact PyProof.Rows.callWith_type (star_all hst' env pos) (wpAny_mono (t "dict") (fun a s1 ⟨vs, e, h⟩ => by subst e; exact fin vs s1 h) fun _ _ z => z)
  | bytes => exact PyProof.Rows.callWith_type (star_all hst' env pos) (wpAny_mono (t "bytes") (fun a s1 ⟨vs, e, h⟩ => by subst e; exact fin vs s1 h) fun _ _ z => z)
  | list => exact PyProof.Rows.callWith_type (star_all hst' env pos) (wpAny_mono (t "list") (fun a s1 ⟨vs, e, h⟩ => by subst e; exact fin vs s1 h) fun _ _ z => z)
  | range => exact PyProof.Rows.callWith_type (star_all hst' env pos) (wpAny_mono (t "range") (fun a s1 ⟨vs, e, h⟩ => by subst e; exact fin vs s1 h) fun _ _ z => z)
theorem fn_call (G : GOk κ Γ meths d) {A : Around} {s : Shared} {σ : Sto} {f : Addr} {args : List Value} {xs : List V} {q : Post} (r : Room A d) (S : St κ σ s) (hv : Vals args xs) (h : Γ.fn f xs q σ) :
    Goes κ [] A (call (.ref f) args) σ s (fun v σ' => ∃ x, Is v x ∧ q x σ') :=
  wpAny_call (codeAny_mono (G.fn f xs q σ A s args h r S hv) fun r s' ⟨v, e, a⟩ => by subst e; exact a)
theorem se_fn {ce : CEnv} (G : GOk κ Γ meths d) (eo : EnvOk env ce vars) {n : PySem.Str} {f : Addr} {p pos : Pos} {es : List PySem.Expr} {pes : PEs} (hl : ce.names.lookup n = some .globalImplicit) (hg : nsIn κ.K mainGlobals n = some (some (.ref f)))
    (hd : (n == ("__debug__" : PySem.Str)) = false) (hk : keepIn κ.K (.ref f) = true) (hst : es.all notStar = true) (he : SEs κ d env vars es (wpEs Γ pes)) : SE κ d env vars (.Call (.Name n p) es [] pos) (wpE Γ (.fn f pes)) := by
  rintro A s σ ε q r S F hq
  have T := G.ok.T.keeps (fun b o e => S.base b o e)
  refine Call_args (Calls.Name_function_global eo.kind (by unfold Env.kindOf; rw [eo.names]; exact hl) (Calls.loadGlobal_global (mg := κ.mg) (by rw [eo.globals]; exact T.g) (mg_of (G.X S) T.g hg) ?_) hd)
  exact go_args (P := κ.K.In) hst he (fun h X => keeps_K hk h X) r S F hq fun vs xs s1 σ1 w1 S1 hv q1 => ⟨G.X S1, fn_call G r S1 hv q1⟩
theorem call_meth {M : Model} {A : Around} {E : Value → Shared → Prop} {s : Shared} {o : PySem.Expr} {name : PySem.Str} {apos pos : Pos} {args : List PySem.Expr} {Q : Value → Shared → Prop}
    (hbase : attributeBase o name env (eval o env) = eval o env) (hst : args.all notStar = true) (hfew : decide (args.length < 29) = true) (hline : (apos.endLine == pos.line) = true)
    (h : wpAny M A (eval o env) (fun ov s₁ => ∀ pl, wpAny M A (getMethod ov name pl) (fun p s₂ => wpAny M A (callWith pos p.1 p.2 (backTo pos (starEach args env)) []) Q E s₂) E s₁) E s) :
    wpAny M A (eval (.Call (.Attribute o name apos) args [] pos) env) Q E s := by
  rw [arm_eval_Call, hbase]
  refine wpAny_bind (wpAny_mono h (fun ov s₁ hc => ?_) fun _ _ e => e)
  refine wpAny_bind (wpAny_standAt ?_)
  have hform : methodCallForm (args.length + ([] : List Keyword).length) (backTo pos (starEach args env)) (backToKw pos (keywordEach [] env)) = true := by
    unfold methodCallForm
    rw [star_form hst]
    have := of_decide_eq_true hfew
    show (true && true && decide (args.length + 0 + 0 < 30)) = true
    simp
    omega
  have hpos : methodCallPos true o env apos pos = pure pos := by unfold methodCallPos; simp [hline]
  unfold methodCall
  rw [hform]
  refine wpAny_bind (wpAny_holding (wpAny_mono (hc _) (fun p s₂ h₂ => ?_) fun _ _ e => e))
  exact wpAny_bind (wpAny_of_eq hpos h₂)
theorem se_meth (G : GOk κ Γ meths d) {o : PySem.Expr} {n : PySem.Str} {apos pos : Pos} {es : List PySem.Expr} {po : PE} {pes : PEs} {i : Nat} {f : Addr} (hb : attributeBase o n env (eval o env) = eval o env) (hst : es.all notStar = true) (hfew : decide (es.length < 29) = true)
    (hline : (apos.endLine == pos.line) = true) (hi : meths[i]? = some (n, f)) (hk : keepIn κ.K (.ref f) = true) (ho : SE κ d env vars o (wpE Γ po)) (he : SEs κ d env vars es (wpEs Γ pes)) :
    SE κ d env vars (.Call (.Attribute o n apos) es [] pos) (wpE Γ (.meth po i pes)) := by
  rintro A s σ ε q r S F hq
  refine call_meth hb hst hfew hline (wpAny_mono (ho A s σ ε _ r S F hq) (fun ov s1 ⟨σ1, w1, S1, x, ix, ⟨a, fs, e1, e2⟩, q1⟩ pl => ?_) fun _ _ z => z)
  subst e1
  cases ix
  have C := G.clsOk
  obtain ⟨dx, es', m, I, fl, _⟩ := inst_at (S1.sits _ _ e2)
  have Mo := C.meth i (n, f) hi
  simp only [methOk, Bool.and_eq_true, beq_iff_eq, Bool.not_eq_true', List.contains_eq_mem, decide_eq_false_iff_not] at Mo
  obtain ⟨⟨⟨m1, m2⟩, m3⟩, m4⟩ := Mo
  refine method_fn (G.X S1) I (plainGet_of m1).1 (plainGet_of m1).2 m2 (beq_iff_eq.mp m3) (by show (lookIn n (dictOf es' m)).map _ = _; rw [lookIn_dict, fl.miss fun j hj => absurd (List.mem_of_getElem? hj) m4]; rfl) ?_
  have em : Γ.meth i = f := G.meth i (n, f) hi
  have key := go_args (first := [.ref a]) (pos := pos) (P := κ.K.In) hst he (fun h X => keeps_K hk h X) r S1 (F.keep w1.fut) q1 (R := fun v σ' => ∃ x, Is v x ∧ q x σ') fun vs xs s2 σ2 w2 S2 hv q2 => ⟨G.X S2, ?_⟩
  · exact Goes.up w1 key
  · rw [em] at q2
    exact fn_call G r S2 (.cons (.ref a) hv) q2
theorem se_bm (G : GOk κ Γ meths d) {o : PySem.Expr} {f : BM} {apos pos : Pos} {es : List PySem.Expr} {po : PE} {pes : PEs} (hb : attributeBase o f.nm env (eval o env) = eval o env) (hst : es.all notStar = true) (hfew : decide (es.length < 29) = true)
    (hline : (apos.endLine == pos.line) = true) (ho : SE κ d env vars o (wpE Γ po)) (he : SEs κ d env vars es (wpEs Γ pes)) : SE κ d env vars (.Call (.Attribute o f.nm apos) es [] pos) (wpE Γ (.bm po f pes)) := by
  rintro A s σ ε q r S F hq
  refine call_meth hb hst hfew hline (wpAny_mono (ho A s σ ε _ r S F hq) (fun ov s1 ⟨σ1, w1, S1, x, ix, on, q1⟩ pl => ?_) fun _ _ z => z)
  obtain ⟨a, e1, e2, t1, t2⟩ := BM.here S1 ix on
  subst e1 e2
  obtain ⟨b1, b2, b3⟩ := f.facts
  refine getMethod_builtin t1 b1 b2 b3 (fun a' e => by cases e; exact t2) ?_
  refine Calls.callWith_builtin (star_all hst env pos) (args_go (star_all hst env pos) (wpAny_mono (he A s1 σ1 ε _ pos r S1 (F.keep w1.fut) q1) (fun vs s2 zz => ?_) fun _ _ z => z))
  obtain ⟨σ2, w2, S2, xs, hv, _, q2⟩ := zz
  exact Goes.up (w1.trans w2) (bm_call G S2 q2 hv)
end Mine
end
section
open PySem PySem.W PyProof.Rows PySem.SeqAt
set_option Elab.async false
set_option maxRecDepth 100000
namespace Mine
variable {κ : Kx} {Γ : Gx} {meths : List (PySem.Str × Addr)} {d : Nat} {env : Env} {vars : List (PySem.Str × Loc)}
theorem St.adopt (O : κ.Ok) {σ : Sto} {s : Shared} {a : Addr} {ao : AO} (S : St κ σ s) (z : σ a = none) (n : Sits κ (σ.set a ao) s.heap a ao) : St κ (σ.set a ao) s := by
  refine ⟨fun b o e => ?_, S.base⟩
  by_cases q : b = a
  · subst q; rw [Sto.set_self] at e; cases e; exact n
  · rw [Sto.set_ne σ ao q] at e
    refine (S.sits b o e).keep O (fun _ _ _ e => e) fun c hc => ?_
    rw [Sto.set_ne σ ao (fun y => by rw [y, z] at hc; cases hc)]; exact hc
theorem Fut.still {W : List Addr} {σ σ' : Sto} {h h' : Heap} (w : Fut W σ h σ' h') {a : Addr} {o : Obj} (e : h.get? a = some o) (z : σ a = none) : σ' a = none := by
  cases q : σ' a with
  | none => rfl
  | some y =>
    rcases w.dom a (by rw [q]; exact fun z => nomatch z) with x | x
    · exact absurd z x
    · rw [e] at x; cases x
theorem Way.push (W : List Addr) (σ : Sto) (s : Shared) (ob : Obj) : Way W σ s σ { s with heap := s.heap.push ob } := Way.of' ⟨fun _ _ e _ _ => Heap.get?_push_of_some _ e, fun _ e => .inl e⟩
theorem St.pushed (O : κ.Ok) {σ : Sto} {s : Shared} (S : St κ σ s) (ob : Obj) : St κ σ { s with heap := s.heap.push ob } := S.aside O (tk := s.toks) fun _ _ e _ => Heap.get?_push_of_some _ e
theorem after_adopt (G : GOk κ Γ meths d) {σ σ1 : Sto} {s s1 : Shared} {a : Addr} {h' : Heap} {tk : Nat} {ao : AO} (S : St κ σ s) (ha : s.heap.get? a = none) (w1 : Way [] σ s σ1 s1) (S1 : St κ σ1 s1) (z : σ1 a = none)
    (k : ∀ b o, b ≠ a → s1.heap.get? b = some o → h'.get? b = some o) (n : Sits κ (σ1.set a ao) h' a ao) :
    St κ (σ1.set a ao) { s1 with heap := h', toks := tk } ∧ Way [] σ s (σ1.set a ao) { s1 with heap := h', toks := tk } ∧ New Γ σ1 a := by
  have hb : κ.base.get? a = none := S.base_none ha
  have S2 : St κ σ1 { s1 with heap := h', toks := tk } := S1.aside G.ok fun b o e hσ => k b o (fun q => by subst q; rcases hσ with h | h; exact h z; exact h hb) e
  refine ⟨S2.adopt G.ok z n, ?_, z, (new_of G S ha).2⟩
  obtain ⟨⟨h, tk', e⟩, u⟩ := w1
  refine ⟨⟨h', tk, by rw [e]⟩, ⟨fun b o eb hn hw => k b o (fun q => by subst q; rw [ha] at eb; cases eb) (u.keep b o eb hn hw), fun c hc => ?_⟩⟩
  by_cases q : c = a
  · subst q; exact .inr ha
  · rw [Sto.set_ne σ1 ao q] at hc; exact u.dom c hc
noncomputable def PairsAre (κ : Kx) (vs : List (Value × Value)) (ps : List (Int × V)) : Prop := ∃ kvs : List (Int × Value), Carries (intKind κ.prog κ.w) vs kvs ∧ Ents kvs ps
noncomputable def SDs (κ : Kx) (d : Nat) (_env : Env) (vars : List (PySem.Str × Loc)) (trees : List (Sem Value × Sem Value)) (w : (List (Int × V) → Sto → Prop) → Env0 → Sto → Prop) : Prop :=
  ∀ A s σ ε q, Room A d → St κ σ s → FrameSt vars ε σ s.heap → w q ε σ → Goes κ [] A (evalPairs trees) σ s (fun vs σ' => ∃ ps, PairsAre κ vs ps ∧ vs.length = trees.length ∧ q ps σ')
theorem sds_nil : SDs κ d env vars [] (wpDs Γ .nil) := fun _ _ _ _ _ _ S _ hq => evalPairs_nil (After.now S ⟨[], ⟨[], trivial, .nil⟩, rfl, hq⟩)
theorem sds_cons {k v : PySem.Expr} {ks : List (Option PySem.Expr)} {vs : List PySem.Expr} {pos : Pos} {pk pv : PE} {pr : PEs} (hk : SE κ d env vars k (wpE Γ pk)) (hv : SE κ d env vars v (wpE Γ pv)) (hr : SDs κ d env vars (pairTrees ks vs env pos) (wpDs Γ pr)) :
    SDs κ d env vars (pairTrees (some k :: ks) (v :: vs) env pos) (wpDs Γ (.cons pk (.cons pv pr))) := by
  rintro A s σ ε q r S F hq
  refine evalPairs_cons (wpAny_mono (hk A s σ ε _ r S F hq) (fun kv s1 zz => ?_) fun _ _ z => z)
  obtain ⟨σ1, w1, S1, y, iy, i, e, q1⟩ := zz
  subst e
  cases iy with
  | int _ t =>
    refine wpAny_bind (wpAny_mono (hv A s1 σ1 ε _ r S1 (F.keep w1.fut) q1) (fun vv s2 zz => ?_) fun _ _ z => z)
    obtain ⟨σ2, w2, S2, x, ix, q2⟩ := zz
    refine wpAny_bind (wpAny_standAt (wpAny_pure ?_))
    refine wpAny_mono (hr A s2 σ2 ε _ r S2 (F.keep (w1.trans w2).fut) q2) (fun us s3 ⟨σ3, w3, S3, ps, ⟨kvs, c, en⟩, hl, q3⟩ => ?_) fun _ _ z => z
    exact ⟨σ3, (w1.trans w2).trans w3, S3, (i, x) :: ps, ⟨(i, vv) :: kvs, ⟨isInt_is (t := t), rfl, c⟩, .cons ix en⟩, by simp [hl, pairTrees], q3⟩
theorem stored_nodup {kvs : List (Int × Value)} (hn : (kvs.map (·.1)).Nodup) (k : Int) (v : Value) : ((stored kvs k v).map (·.1)).Nodup := by
  unfold PySem.stored
  split
  · rw [List.map_map]
    have e : ((fun x : Int × Value => x.1) ∘ fun kv : Int × Value => if kv.1 = k then (kv.1, v) else kv) = fun x => x.1 := by
      funext x
      show (if x.1 = k then (x.1, v) else x).1 = x.1
      split <;> rfl
    rw [e]; exact hn
  · rename_i h
    rw [List.map_append, List.nodup_append]
    refine ⟨hn, by simp, fun a ha b hb e => h ?_⟩
    simp at hb
    subst hb
    obtain ⟨p, hp, rfl⟩ := List.mem_map.mp ha
    exact List.any_eq_true.mpr ⟨p, hp, by simpa using e⟩
theorem ents_merged : ∀ {kvs : List (Int × Value)} {ps : List (Int × V)} (_ : Ents kvs ps) {acc : List (Int × Value)} {es : List (Int × V)}, Ents acc es → (acc.map (·.1)).Nodup → Ents (merged acc kvs) (ps.foldl (fun es p => putE p.1 p.2 es) es) ∧ (ps.foldl (fun es p => putE p.1 p.2 es) es).length ≤ es.length + ps.length := by
  intro kvs ps h
  induction h with
  | nil => intro acc es ha _; exact ⟨ha, Nat.le_refl _⟩
  | @cons k v x kvs ps hv _ ih =>
    intro acc es ha hn
    obtain ⟨a, b⟩ := ih (ha.stored (k := k) hn hv) (stored_nodup hn k v)
    refine ⟨a, ?_⟩
    have := putE_len k x es
    rw [List.foldl_cons, List.length_cons]
    dsimp only
    omega
theorem empty_dict {h : Heap} {a : Addr} (e : h.get? a = some { cls := .type "dict", data := .dict #[] }) : h.DictOf (intKind κ.prog κ.w) a [] := by
  obtain ⟨o, es, ep, _, r⟩ := Heap.DictOf.new (knd := intKind κ.prog κ.w) h
  exact ⟨_, #[], 0, e, ⟨rfl, rfl, rfl⟩, rfl, fun _ h => by simp at h, .nil, List.nodup_nil⟩
theorem se_dict (G : GOk κ Γ meths d) {keys : List (Option PySem.Expr)} {values : List PySem.Expr} {pos : Pos} {pr : PEs} (hall : keys.all (·.isSome) = true) (hl : keys.length = values.length) (h0 : keys ≠ []) (hlen : keys.length ≤ 15)
    (h : SDs κ d env vars (pairTrees keys values env pos) (wpDs Γ pr)) : SE κ d env vars (.Dict keys values pos) (wpE Γ (.dict pr)) := by
  rintro A s σ ε q r S F hq
  have ha := fresh_none s.heap
  have hσ := S.none_of G.ok ha
  have w0 : Way [] σ s σ { s with heap := s.heap.push { cls := .type "dict", data := .dict #[] } } := Way.push [] σ s _
  refine wpAny_Dict_any hall hl h0 hlen (wpAny_mono (h A _ σ ε _ r (S.pushed G.ok _) (F.keep w0.fut) hq) (fun vs s1 ⟨σ1, w1, S1, ps, ⟨kvs, hc, he⟩, hvl, q1⟩ => ?_) fun _ _ z => z)
  have h00 : (s.heap.push { cls := .type "dict", data := .dict #[] }).get? s.heap.objs.size = some { cls := .type "dict", data := .dict #[] } := Heap.get?_push_size _ rfl
  have h1 : s1.heap.get? s.heap.objs.size = some { cls := .type "dict", data := .dict #[] } := w1.fut.keep _ _ h00 hσ (fun h => nomatch h)
  have hσ1 := w1.fut.still h00 hσ
  have hn : ps.length ≤ 15 := by
    rw [← he.length, hc.length, hvl, pairTrees_length keys values env pos hall hl]; exact hlen
  unfold storeAll
  refine wpAny_storeAll vs kvs [] s1 _ hc (empty_dict h1) (by rw [he.length, sizeLine_eq]; show 0 + ps.length ≤ _; omega) fun h' hD hs => ?_
  obtain ⟨ep, hD⟩ := hD.dictAt
  obtain ⟨e1, e2⟩ := ents_merged he (acc := []) (es := []) .nil List.nodup_nil
  obtain ⟨x, y, z⟩ := after_adopt G (tk := s1.toks + vs.length) (ao := .dict _ ep) S ha (w0.trans w1) S1 hσ1 (fun b o hb eb => hs.extBut b o hb eb) ⟨_, hD, e1, S.base_none ha, by simp at e2; omega, new_low G S⟩
  exact ⟨_, y, x, _, .ref _, q1 _ z ep⟩
theorem se_dict0 (G : GOk κ Γ meths d) {pos : Pos} : SE κ d env vars (.Dict [] [] pos) (wpE Γ (.dict .nil)) := by
  rintro A s σ ε q r S F hq
  refine wpAny_Dict_empty ?_
  obtain ⟨ep, hD⟩ := (empty_dict (κ := κ) (Heap.get?_push_size s.heap (o := { cls := .type "dict", data := .dict #[] }) rfl)).dictAt
  exact after_made (tk := s.toks) (ao := .dict [] ep) G S (fresh_none _) (fun b o e => Heap.get?_push_of_some _ e) ⟨_, hD, .nil, S.base_none (fresh_none _), Nat.zero_le _, new_low G S⟩ fun l hl => hq l hl ep
theorem sc_chain (G : GOk κ Γ meths d) {o1 o2 : CmpOp} {a b c : PySem.Expr} {pos : Pos} {pa pb pc : PE} (hm : lastMarks [o1, o2] [b, c] = false) (ha : SE κ d env vars a (wpE Γ pa)) (hb : SE κ d env vars b (wpE Γ pb)) (hc : SE κ d env vars c (wpE Γ pc)) :
    SC κ d env vars (.Compare a [o1, o2] [b, c] pos) (wpC Γ (.chain pa (cOp o1) pb (cOp o2) pc)) := by
  rintro A s σ ε q r S F hq
  refine isTrue_chain (wpAny_mono (ha A s σ ε _ r S F hq) (fun v s1 zz => ?_) fun _ _ z => z) hm
  obtain ⟨σ1, w1, S1, x, ix, q1⟩ := zz
  refine test_link (wpAny_mono (hb A s1 σ1 ε _ r S1 (F.keep w1.fut) q1) (fun u s2 zz => ?_) fun _ _ z => z)
  obtain ⟨σ2, w2, S2, y, iy, q2⟩ := zz
  refine wpAny_mono (op_ok G S2 r q2 ix iy) (fun z s3 zz => ?_) fun _ _ z => z
  obtain ⟨σ3, w3, S3, t, e, q3⟩ := zz
  subst e
  refine wpAny_truthy_bool ?_
  have w := (w1.trans w2).trans w3
  cases t with
  | false => exact ⟨σ3, w, S3, q3⟩
  | true =>
    refine test_last (wpAny_mono (hc A s3 σ3 ε _ r S3 (F.keep w.fut) q3) (fun v4 s4 zz => ?_) fun _ _ z => z)
    obtain ⟨σ4, w4, S4, z, iz, q4⟩ := zz
    refine wpAny_mono (op_ok G S4 r q4 iy iz) (fun z s5 zz => ?_) fun _ _ z => z
    obtain ⟨σ5, w5, S5, t, e, q5⟩ := zz
    subst e
    exact wpAny_truthy_bool ⟨σ5, (w.trans w4).trans w5, S5, q5⟩
end Mine
end
section
open PySem PySem.W PyProof.Rows PySem.SeqAt
set_option Elab.async false
set_option maxRecDepth 100000
namespace Mine
variable {κ : Kx} {Γ : Gx} {meths : List (PySem.Str × Addr)} {d : Nat} {env : Env} {vars : List (PySem.Str × Loc)}
end Mine
end
section
open PySem PySem.W PyProof.Rows PySem.SeqAt
set_option Elab.async false
set_option maxRecDepth 100000
namespace Mine
variable {κ : Kx} {Γ : Gx} {meths : List (PySem.Str × Addr)} {d : Nat} {env : Env} {vars : List (PySem.Str × Loc)}
theorem Fut.comp {W W' : List Addr} {σ σ' σ'' : Sto} {h h' h'' : Heap} (x : Fut W σ h σ' h') (y : Fut W' σ' h' σ'' h'') (hW' : ∀ b ∈ W', b ∈ W ∨ h.get? b = none) (hW : ∀ b ∈ W, ∃ o, h'.get? b = some o) : Fut W σ h σ'' h'' := by
  refine ⟨fun b o e n hw => ?_, fun a e => ?_⟩
  · have e' := x.keep b o e n hw
    refine y.keep b o e' ?_ fun hb => ?_
    · cases q : σ' b with
      | none => rfl
      | some z =>
        rcases x.dom b (by rw [q]; exact fun z => nomatch z) with z | z
        · exact absurd n z
        · rw [e] at z; cases z
    · rcases hW' b hb with z | z
      · exact hw z
      · rw [e] at z; cases z
  · rcases y.dom a e with z | z
    · exact x.dom a z
    · cases q : h.get? a with
      | none => exact .inr rfl
      | some o =>
        left
        intro n
        by_cases hw : a ∈ W
        · obtain ⟨o', e'⟩ := hW a hw
          rw [e'] at z; cases z
        · rw [x.keep a o q n hw] at z; cases z
theorem Fut.same {W : List Addr} {σ : Sto} {h h' : Heap} (k : ∀ b o, b ∉ W → h.get? b = some o → h'.get? b = some o) : Fut W σ h σ h' := ⟨fun b o e _ hw => k b o hw e, fun _ e => .inl e⟩
noncomputable def relabN (ns cn : List (PySem.Str × NameKind)) : List (PySem.Str × NameKind) := ns.map fun p => if (p.2 == .free && cn.lookup p.1 == some .cell) then (p.1, .cell) else p
noncomputable def isFree (ns : List (PySem.Str × NameKind)) (n : PySem.Str) : Bool := ns.any fun q => q.1 == n && q.2 == .free
noncomputable def compCE (ns : List (PySem.Str × NameKind)) (ce : CEnv) (x : PySem.Str) : CEnv := ⟨relabN ns ce.names, (ce.vs.map fun p => (p.1, if p.2 = .cell ∧ isFree ns p.1 = true then Kind.cell else Kind.hid)) ++ [(x, .loc)]⟩
theorem relab_eq {ce : CEnv} {scope : Scope} (eo : EnvOk env ce vars) : (relabel scope env).names = relabN scope.names ce.names := by
  unfold relabel relabN
  refine List.map_congr_left fun p _ => ?_
  obtain ⟨n, k⟩ := p
  show (if (k == NameKind.free && env.scope.kind == .function && env.kindOf n == some .cell) = true then _ else _) = _
  rw [eo.kind]
  unfold Env.kindOf
  rw [eo.names]
  simp
noncomputable def closOf (cells : List (PySem.Str × Addr)) : List (PySem.Str × NameKind) → List (PySem.Str × Addr) → List (PySem.Str × Addr)
  | [], acc => acc
  | p :: r, acc => if p.2 == .free then closOf cells r ((p.1, (cells.lookup p.1).getD 0) :: acc) else closOf cells r acc
theorem closOf_lookup {cells : List (PySem.Str × Addr)} {n : PySem.Str} {c : Addr} (hc : cells.lookup n = some c) : ∀ (l : List (PySem.Str × NameKind)) (acc : List (PySem.Str × Addr)), (acc.lookup n = some c ∨ isFree l n = true) → (closOf cells l acc).lookup n = some c
  | [], acc, h => by rcases h with h | h; exact h; cases h
  | p :: r, acc, h => by
    unfold closOf
    by_cases q : (p.2 == NameKind.free) = true
    · rw [if_pos q]
      refine closOf_lookup hc r _ ?_
      by_cases e : p.1 = n
      · left; rw [List.lookup_cons, e, beq_self_eq_true, hc]; rfl
      · have e' : (n == p.1) = false := beq_false_of_ne (Ne.symm e)
        rcases h with h | h
        · left; rw [List.lookup_cons, e']; exact h
        · right
          unfold isFree at h ⊢
          rw [List.any_cons, beq_false_of_ne e] at h
          simpa using h
    · rw [if_neg q]
      refine closOf_lookup hc r _ ?_
      rcases h with h | h
      · exact .inl h
      · right
        unfold isFree at h ⊢
        rw [List.any_cons] at h
        rw [Bool.not_eq_true] at q
        rw [q] at h
        simpa using h
theorem closure_ok {scope : Scope} (h : ∀ p ∈ scope.names, p.2 = .free → (env.cells.lookup p.1).isSome = true) : closureFor scope env = pure (closOf env.cells scope.names []) := by
  have key : ∀ (l : List (PySem.Str × NameKind)) (acc : List (PySem.Str × Addr)), (∀ p ∈ l, p.2 = .free → (env.cells.lookup p.1).isSome = true) →
      (forIn l acc fun (x : PySem.Str × NameKind) (cs : List (PySem.Str × Addr)) => (match x with
        | (name, kind) => if (kind == .free) = true then do let c ← cellOf env name; pure (ForInStep.yield ((name, c) :: cs)) else pure (ForInStep.yield cs) : Sem (ForInStep (List (PySem.Str × Addr))))) = pure (closOf env.cells l acc) := by
    intro l
    induction l with
    | nil => intro acc _; rfl
    | cons p r ih =>
      intro acc hp
      obtain ⟨n, k⟩ := p
      rw [List.forIn_cons]
      unfold closOf
      dsimp only
      by_cases q : (k == NameKind.free) = true
      · rw [if_pos q, if_pos q]
        obtain ⟨c, hc⟩ := Option.isSome_iff_exists.mp (hp (n, k) (.head _) (by simpa using q))
        have e : cellOf env n = pure c := by unfold cellOf; rw [hc]
        rw [e]
        dsimp only at hc
        rw [hc]
        exact ih _ fun p hp' => hp p (.tail _ hp')
      · rw [if_neg q, if_neg q]
        exact ih _ fun p hp' => hp p (.tail _ hp')
  have := key scope.names [] h
  unfold closureFor
  exact (congrArg (fun t => t >>= pure) this).trans (by rfl)
theorem EnvOk.comp {ce : CEnv} {scope : Scope} {x : PySem.Str} (eo : EnvOk env ce vars) (hsk : scope.kind = .function) {C : Addr} (fresh : ∀ (i : Nat) (n : PySem.Str) (l : Loc), vars[i]? = some (n, l) → l.adr ≠ C) :
    EnvOk (compEnvC scope (closOf env.cells scope.names []) C env) (compCE scope.names ce x) (vars ++ [(x, .loc C)]) := by
  have hl := eo.len
  have last : ∀ {i : Nat} {n : PySem.Str} {l : Loc}, (vars ++ [(x, Loc.loc C)])[i]? = some (n, l) → vars[i]? = some (n, l) ∨ (i = vars.length ∧ n = x ∧ l = .loc C) := by
    intro i n l e
    by_cases q : i < vars.length
    · rw [List.getElem?_append_left q] at e; exact .inl e
    · rw [List.getElem?_append_right (by omega)] at e
      have : i - vars.length = 0 := by
        cases z : i - vars.length with
        | zero => rfl
        | succ k => rw [z] at e; simp at e
      rw [this] at e
      simp at e
      exact .inr ⟨by omega, e.1.symm, e.2.symm⟩
  have lastc : ∀ {i : Nat} {n : PySem.Str} {k : Kind}, (compCE scope.names ce x).vs[i]? = some (n, k) → (∃ k', ce.vs[i]? = some (n, k') ∧ k = if k' = .cell ∧ isFree scope.names n = true then Kind.cell else Kind.hid) ∨ (i = ce.vs.length ∧ n = x ∧ k = .loc) := by
    intro i n k e
    unfold compCE at e
    dsimp only at e
    by_cases q : i < ce.vs.length
    · rw [List.getElem?_append_left (by rw [List.length_map]; exact q), List.getElem?_map] at e
      obtain ⟨p, hp, e⟩ := Option.map_eq_some_iff.mp e
      cases e
      exact .inl ⟨p.2, hp, rfl⟩
    · rw [List.getElem?_append_right (by rw [List.length_map]; omega), List.length_map] at e
      have : i - ce.vs.length = 0 := by
        cases z : i - ce.vs.length with
        | zero => rfl
        | succ k => rw [z] at e; simp at e
      rw [this] at e
      simp at e
      exact .inr ⟨by omega, e.1.symm, e.2.symm⟩
  refine ⟨hsk, eo.globals, eo.builtins, relab_eq eo, by simp [compCE, hl], fun i j n n' l l' e e' hij hn => ?_, fun i j n n' c l' e e' hij => ?_, fun i n e => ?_, fun i n e => ?_⟩
  · rcases last e with a | ⟨a1, a2, a3⟩ <;> rcases last e' with b | ⟨b1, b2, b3⟩
    · exact eo.nodup i j n n' l l' a b hij hn
    · subst b3; exact fresh _ _ _ a
    · subst a3; exact (fresh _ _ _ b).symm
    · omega
  · rcases last e with a | ⟨a1, a2, a3⟩ <;> rcases last e' with b | ⟨b1, b2, b3⟩
    · exact eo.apart i j n n' c l' a b hij
    · subst b3; exact fresh _ _ _ a
    · cases a3
    · cases a3
  · rcases lastc e with ⟨k', _, h⟩ | ⟨a1, a2, _⟩
    · split at h <;> cases h
    · subst a1 a2
      rw [← hl]
      show (vars ++ [(n, Loc.loc C)])[vars.length]? = _
      rw [List.getElem?_append_right (Nat.le_refl _), Nat.sub_self]; rfl
  · rcases lastc e with ⟨k', hk, h⟩ | ⟨_, _, h⟩
    · split at h
      · rename_i z
        obtain ⟨rfl, hf⟩ := z
        obtain ⟨c, hc, hlk⟩ := eo.cell i n hk
        exact ⟨c, by rw [List.getElem?_append_left (List.getElem?_eq_some_iff.mp hc).1]; exact hc, closOf_lookup hlk _ _ (.inr hf)⟩
      · cases h
    · cases h
theorem frame_comp {ε : Env0} {σ : Sto} {h h' : Heap} {x : PySem.Str} {C : Addr} {m : PySem.Str → Option Value} (F : FrameSt vars ε σ h) (k : ∀ b o, h.get? b = some o → h'.get? b = some o) (hC : σ C = none) (hn : h'.Ns C m) : FrameSt (vars ++ [(x, .loc C)]) (ε ++ [none]) σ h' := by
  have F' := F.keepW (W := []) (σ' := σ) (h' := h') (Fut.same fun b o _ e => k b o e) (fun _ _ _ _ h => nomatch h)
  have last : ∀ {i : Nat} {n : PySem.Str} {l : Loc}, (vars ++ [(x, Loc.loc C)])[i]? = some (n, l) → vars[i]? = some (n, l) ∧ (ε ++ [none])[i]? = ε[i]? ∨ (n = x ∧ l = .loc C ∧ (ε ++ [none])[i]? = some none) := by
    intro i n l e
    by_cases q : i < vars.length
    · rw [List.getElem?_append_left q] at e
      exact .inl ⟨e, by rw [List.getElem?_append_left (by rw [F.len]; exact q)]⟩
    · rw [List.getElem?_append_right (by omega)] at e
      have z : i - vars.length = 0 := by
        cases z : i - vars.length with
        | zero => rfl
        | succ k => rw [z] at e; simp at e
      rw [z] at e
      simp at e
      refine .inr ⟨e.1.symm, e.2.symm, ?_⟩
      rw [List.getElem?_append_right (by rw [F.len]; omega), F.len, z]; rfl
  refine ⟨by simp [F.len], fun i n l e => ?_, fun i n L e => ?_, fun i n c e => ?_⟩
  · rcases last e with ⟨a, _⟩ | ⟨_, a, _⟩
    · exact F'.off i n l a
    · subst a; exact hC
  · rcases last e with ⟨a, b⟩ | ⟨_, a, b⟩
    · rw [b]; exact F'.loc i n L a
    · cases a; exact ⟨m, hn, fun y hy => by rw [b] at hy; cases hy⟩
  · rcases last e with ⟨a, b⟩ | ⟨_, a, b⟩
    · rw [b]; exact F'.cell i n c a
    · cases a
end Mine
end
section
open PySem PySem.W PyProof.Rows PySem.SeqAt
set_option Elab.async false
set_option maxRecDepth 100000
namespace Mine
variable {κ : Kx} {Γ : Gx} {meths : List (PySem.Str × Addr)} {d : Nat} {env : Env} {vars : List (PySem.Str × Loc)}
noncomputable def STs (κ : Kx) (d : Nat) (env : Env) (vars : List (PySem.Str × Loc)) (ifs : List PySem.Expr) (w : (Bool → Sto → Prop) → Env0 → Sto → Prop) : Prop :=
  ∀ A s σ ε q, Room A d → St κ σ s → FrameSt vars ε σ s.heap → w q ε σ →
    Goes κ [] A (forIn ifs true fun c r => if r = true then do let ok ← isTrue c env (eval c env); pure (ForInStep.yield ok) else pure (ForInStep.yield r)) σ s q
theorem st_nil : STs κ d env vars [] (wpC Γ .tru) := fun _ _ _ _ _ _ S _ hq => wpAny_tests_nil (After.now S hq)
theorem st_one {c : PySem.Expr} {pc : PC} (h : SC κ d env vars c (wpC Γ pc)) : STs κ d env vars [c] (wpC Γ pc) := fun A s σ ε q r S F hq => wpAny_tests_one (h A s σ ε q r S F hq)
noncomputable def compOk (scope : Scope) (ce : CEnv) (x : PySem.Str) : Bool :=
  scope.kind == .function && scope.names.all (fun y => y.2 != .cell) && scope.names.all (fun y => y.2 != .local || scope.names.lookup y.1 == some .local) &&
    scope.names.all (fun p => p.2 != .free || (findVar p.1 .cell ce.vs 0).isSome) && (compCE scope.names ce x).var x == some ce.vs.length
structure CompOk (scope : Scope) (ce : CEnv) (x : PySem.Str) : Prop where
  kind : scope.kind = .function
  cell : ∀ y ∈ scope.names, y.2 ≠ .cell
  names : ∀ y ∈ scope.names, y.2 = .local → scope.names.lookup y.1 = some .local
  free : ∀ p ∈ scope.names, p.2 = .free → (findVar p.1 .cell ce.vs 0).isSome = true
  var : (compCE scope.names ce x).var x = some ce.vs.length
theorem compOk_of {scope : Scope} {ce : CEnv} {x : PySem.Str} (h : compOk scope ce x = true) : CompOk scope ce x := by
  unfold compOk at h
  simp only [Bool.and_eq_true, List.all_eq_true, bne_iff_ne, beq_iff_eq, Bool.or_eq_true] at h
  obtain ⟨⟨⟨⟨a, b⟩, c⟩, e⟩, f⟩ := h
  refine ⟨a, b, fun y hy hl => ?_, fun p hp hf => ?_, f⟩
  · rcases c y hy with z | z
    · exact absurd hl z
    · exact z
  · rcases e p hp with z | z
    · exact absurd hf z
    · exact z
theorem CompOk.closure {scope : Scope} {ce : CEnv} {x : PySem.Str} (c : CompOk scope ce x) (eo : EnvOk env ce vars) : closureFor scope env = pure (closOf env.cells scope.names []) :=
  closure_ok fun p hp hf => by
    obtain ⟨i, hi⟩ := Option.isSome_iff_exists.mp (c.free p hp hf)
    have z := (findVar_spec hi).2
    rw [Nat.sub_zero] at z
    obtain ⟨_, _, hlk⟩ := eo.cell i p.1 z
    rw [hlk]; rfl
theorem comp_core (G : GOk κ Γ meths d) {ce : CEnv} (eo : EnvOk env ce vars) {elt iter : PySem.Expr} {ifs : List PySem.Expr} {x : PySem.Str} {px pos : Pos} {scope : Scope} (co : CompOk scope ce x) (hb : ∀ (i : Nat) (n : PySem.Str) (l : Loc), vars[i]? = some (n, l) → κ.base.get? l.adr = none)
    {A : Around} {s : Shared} {σ : Sto} {ε : Env0} {I a : Addr} {src : AO} {xs : List V} {q : List V → Sto → Prop} {pe : PE} {pc : PC} {RR : Value → Addr → Result → Shared → Prop} (r : Room A d) (S : St κ σ s) (F : FrameSt vars ε σ s.heap)
    (hi : itemsOf src = some xs) (hz : xs.length ≤ 1000) (hcur : Cur s.heap I a src 0) (hI : σ I = none) (hIv : ∀ (i : Nat) (n : PySem.Str) (l : Loc), vars[i]? = some (n, l) → l.adr ≠ I) (hIb : κ.base.get? I = none)
    (hq : goComp Γ (wpE Γ pe) (wpC Γ pc) vars.length a src q xs [] (ε ++ [none]) σ)
    (helt : ∀ C, κ.base.get? C = none → EnvOk (compEnvC scope (closOf env.cells scope.names []) C env) (compCE scope.names ce x) (vars ++ [(x, .loc C)]) → SE κ d (compEnvC scope (closOf env.cells scope.names []) C env) (vars ++ [(x, .loc C)]) elt (wpE Γ pe))
    (htest : ∀ C, κ.base.get? C = none → EnvOk (compEnvC scope (closOf env.cells scope.names []) C env) (compCE scope.names ce x) (vars ++ [(x, .loc C)]) → STs κ d (compEnvC scope (closOf env.cells scope.names []) C env) (vars ++ [(x, .loc C)]) ifs (wpC Γ pc))
    (hRR : ∀ D C σ' s' us n ys m, s.heap.get? D = none → s.heap.get? C = none → D ≠ C → Way [I] σ s σ' s' → St κ σ' s' → σ' D = none → σ' C = none → s'.heap.get? D = some (listOf us.toArray n) → Vals us ys → ys.length ≤ 1000 → s'.heap.Ns C m →
      q ys σ' → RR (.ref D) C (.ok .next) s') :
    wpAny (model κ.prog κ.w) A (newList []) (fun acc s₃ => wpAny (model κ.prog κ.w) A (newFunctionEnv scope env.globals (closOf env.cells scope.names []) [] env.qual none .none (some env)) (fun cenv s₄ =>
      codeAny (model κ.prog κ.w) A (.compStart (.ListComp elt [⟨.Name x px, iter, ifs, 0⟩] scope pos) 0 (.ref I) acc { cenv with scope := relabel scope env }) (RR acc cenv.locals) s₄) noE s₃) noE s := by
  refine wpAny_newObj_type (wpAny_newFunctionEnv co.cell (by intro y hy; simp at hy) (fun h₁ hns₁ hsb₁ => ?_) co.kind)
  dsimp only at hns₁ hsb₁ ⊢
  generalize hH2 : s.heap.push { cls := .type "list", dict := none, data := .seq ([] : List Value).toArray } = H2 at hns₁ hsb₁ ⊢
  have hC : H2.objs.size = s.heap.objs.size + 1 := by rw [← hH2, Heap.size_push]
  generalize hDe : s.heap.objs.size = D at hC ⊢
  generalize hCe : H2.objs.size = C at hC hns₁ hsb₁ ⊢
  have hDC : D ≠ C := by rw [hC]; exact Nat.ne_of_lt (Nat.lt_succ_self _)
  have below : ∀ b, b < D → b ≠ C ∧ b ≠ D := fun b hb => ⟨by rw [hC]; exact Nat.ne_of_lt (Nat.lt_succ_of_lt hb), Nat.ne_of_lt hb⟩
  have lt_of : ∀ b o, s.heap.get? b = some o → b < D := fun b o e => hDe ▸ Heap.lt_size e
  have old : ∀ b o, s.heap.get? b = some o → h₁.get? b = some o := fun b o e => hsb₁.extBut b o (below b (lt_of b o e)).1 (Heap.get?_push_of_some _ (hH2 ▸ Heap.get?_push_of_some _ e))
  have hacc : h₁.get? D = some (listOf ([] : List Value).toArray 0) := hsb₁.extBut _ _ hDC (Heap.get?_push_of_some _ (hH2 ▸ hDe ▸ Heap.get?_push_size _ rfl))
  have fresh : ∀ a, D ≤ a → s.heap.get? a = none := fun a ha => by
    cases e : s.heap.get? a with
    | none => rfl
    | some o' => exact absurd (lt_of _ _ e) (Nat.not_lt.mpr ha)
  have hDn := fresh D (Nat.le_refl _)
  have hCn := fresh C (by rw [hC]; exact Nat.le_succ _)
  have hDσ := S.none_of G.ok hDn
  have hCσ := S.none_of G.ok hCn
  have hDb := S.base_none hDn
  have hCb := S.base_none hCn
  obtain ⟨oI, eI⟩ := hcur.there
  have hID : I ≠ D := (below I (lt_of _ _ eI)).2
  have hIC : I ≠ C := (below I (lt_of _ _ eI)).1
  have eo' := eo.comp (scope := scope) (x := x) co.kind (C := C) fun i n l e z => by
    obtain ⟨o, eo⟩ := F.there e
    rw [z, hCn] at eo; cases eo
  have hvC : ∀ (i : Nat) (n : PySem.Str) (l : Loc), (vars ++ [(x, Loc.loc C)])[i]? = some (n, l) → l.adr ≠ D ∧ l.adr ≠ I ∧ κ.base.get? l.adr = none := by
    intro i n l e
    by_cases z : i < vars.length
    · rw [List.getElem?_append_left z] at e
      obtain ⟨o, eo⟩ := F.there e
      exact ⟨fun w => (by rw [w, hDn] at eo; cases eo), hIv i n l e, hb i n l e⟩
    · rw [List.getElem?_append_right (by omega)] at e
      cases z : i - vars.length with
      | zero => rw [z] at e; simp at e; obtain ⟨_, rfl⟩ := e; exact ⟨hDC.symm, hIC.symm, hCb⟩
      | succ k => rw [z] at e; simp at e
  have loop : ∀ tk, codeAny (model κ.prog κ.w) A (.compLoop (.ListComp elt [⟨.Name x px, iter, ifs, 0⟩] scope pos) 0 (.ref I) (.ref D) (compEnvC scope (closOf env.cells scope.names []) C env)) (RR (.ref D) C) { s with heap := h₁, toks := tk } := by
    intro tk
    refine codeAny_compLoop_tests (fun k s' => ∃ σ' i us n acc ε', k = xs.length + 1 - i ∧ i ≤ xs.length ∧ Way [I] σ s σ' s' ∧ St κ σ' s' ∧ σ' I = none ∧ σ' D = none ∧ σ' C = none ∧ s'.heap.get? D = some (listOf us.toArray n) ∧ Vals us acc ∧ acc.length ≤ i ∧
      Cur s'.heap I a src i ∧ FrameSt (vars ++ [(x, .loc C)]) ε' σ' s'.heap ∧ goComp Γ (wpE Γ pe) (wpC Γ pc) vars.length a src q (xs.drop i) acc ε' σ') ?_ (xs.length + 1)
      ⟨σ, 0, [], 0, [], ε ++ [none], by omega, Nat.zero_le _, Way.of (Fut.same fun b o _ e => old b o e), S.aside G.ok fun b o e _ => old b o e, hI, hDσ, hCσ, hacc, .nil, Nat.zero_le _, hcur.keep fun o e => old _ _ e, frame_comp F old hCσ hns₁, hq⟩
    rintro k s' ⟨σ', i, us, n, acc, ε', rfl, hle, w1, S1, hI1, hD1, hC1, hd1, hv1, hal, cur1, F1, g1⟩
    have lookA : look Γ σ' a = some src := by
      cases e : xs.drop i with
      | nil => rw [e] at g1; exact g1.1
      | cons y ys => rw [e] at g1; exact g1.1
    obtain ⟨⟨hs1, tk1, es1⟩, u1⟩ := w1
    subst es1
    dsimp only at S1 hd1 cur1 F1 u1
    refine next_ok G r.handled S1 lookA hi hle (by omega) cur1 (fun he h' k => ?_) fun y v h' tk' hy iv cur2 k => ?_
    · have hnil : xs.drop i = [] := List.drop_eq_nil_of_le (List.getElem?_eq_none_iff.mp he)
      rw [hnil] at g1
      have y1 : Fut [I] σ' hs1 σ' h' := Fut.same fun b o hw e => k b o (fun z => hw (by simp [z])) e
      obtain ⟨m, hn, _⟩ := F1.keepW y1 (fun i n l e => by have := (hvC i n l e).2.1; simpa using this) |>.loc vars.length x C (by rw [List.getElem?_append_right (Nat.le_refl _), Nat.sub_self]; rfl)
      refine hRR D C σ' _ us n acc m hDn hCn hDC (Way.of (u1.comp y1 (fun b hb => .inl hb) fun b hb => ?_)) (S1.aside G.ok fun b o e hσ => k b o (fun z => ?_) e) hD1 hC1 (k _ _ hID.symm hd1) hv1 (by omega) hn g1.2
      · have : b = I := by simpa using hb
        subst this; exact cur1.there
      · subst z; rcases hσ with z | z; exact z hI1; exact z hIb
    · have hdrop : xs.drop i = y :: xs.drop (i + 1) := by
        have hlt : i < xs.length := (List.getElem?_eq_some_iff.mp hy).1
        rw [List.drop_eq_getElem_cons hlt]
        rw [List.getElem?_eq_getElem hlt] at hy
        cases hy; rfl
      rw [hdrop] at g1
      have hlt : i < xs.length := (List.getElem?_eq_some_iff.mp hy).1
      obtain ⟨_, g1⟩ := g1
      -- behind the step of the iterator
      have y2 : Fut [I] σ' hs1 σ' h' := Fut.same fun b o hw e => k b o (fun z => hw (by simp [z])) e
      have u2 : Fut [I] σ s.heap σ' h' := u1.comp y2 (fun b hb => .inl hb) fun b hb => by
        have : b = I := by simpa using hb
        subst this; exact cur1.there
      have S2 : St κ σ' { s with heap := h', toks := tk' } := S1.aside G.ok fun b o e hσ => k b o (fun z => by subst z; rcases hσ with z | z; exact z hI1; exact z hIb) e
      have F2 := F1.keepW y2 fun i n l e => by have := (hvC i n l e).2.1; simpa using this
      have hd2 := k _ _ hID.symm hd1
      -- the variable
      refine wpAny_assign_Name (store_var (s := { s with heap := h', toks := tk' }) (W := [C]) G.ok eo' S2 F2 (co.var) iv (fun i n l e => (hvC i n l e).2.2) (fun m l e => ?_) fun h3 tk3 S3 u3 F3 => ?_)
      · rw [← eo.len] at e
        rw [List.getElem?_append_right (Nat.le_refl _), Nat.sub_self] at e
        cases e; exact List.mem_singleton.mpr rfl
      have cur3 : Cur h3 I a src (i + 1) := cur2.keep fun o e => u3.keep _ _ e hI1 (by simpa using hIC)
      have hd3 := u3.keep _ _ hd2 hD1 (by simpa using hDC)
      have u3' : Fut [I] σ s.heap σ' h3 := u2.comp u3 (fun b hb => by
        have : b = C := by simpa using hb
        subst this; exact .inr hCn) fun b hb => by
        have : b = I := by simpa using hb
        subst this; exact cur2.there
      rw [← eo.len] at F3
      -- the tests
      refine wpAny_mono (htest C hCb eo' A _ σ' _ _ r S3 F3 g1) (fun ok s4 zz => ?_) fun _ _ z => z.elim
      obtain ⟨σ4, w4, S4, g4⟩ := zz
      have hI4 := w4.fut.still (cur3.there.choose_spec) hI1
      have hD4 := w4.fut.still hd3 hD1
      obtain ⟨oC, eC⟩ := F3.there (i := vars.length) (n := x) (l := .loc C) (by rw [List.getElem?_append_right (Nat.le_refl _), Nat.sub_self]; rfl)
      have hC4 := w4.fut.still eC hC1
      have cur4 : Cur s4.heap I a src (i + 1) := cur3.keep fun o e => w4.fut.keep _ _ e hI1 (fun h => nomatch h)
      have hd4 := w4.fut.keep _ _ hd3 hD1 (fun h => nomatch h)
      have F4 := F3.keep w4.fut
      obtain ⟨⟨h4, tk4, es4⟩, u4⟩ := w4
      subst es4
      dsimp only at S4 cur4 hd4 F4 u4
      have u4' : Fut [I] σ s.heap σ4 h4 := u3'.comp u4 (fun b hb => nomatch hb) fun b hb => by
        have : b = I := by simpa using hb
        subst this; exact cur3.there
      cases ok with
      | false =>
        rw [if_neg (by decide)] at g4 ⊢
        exact ⟨xs.length + 1 - (i + 1), by omega, σ4, i + 1, us, n, acc, _, rfl, hlt, Way.of u4', S4, hI4, hD4, hC4, hd4, hv1, by omega, cur4, F4, g4⟩
      | true =>
        rw [if_pos rfl] at g4 ⊢
        refine wpAny_mono (helt C hCb eo' A _ σ4 _ _ r S4 F4 g4) (fun ev s5 zz => ?_) fun _ _ z => z.elim
        obtain ⟨σ5, w5, S5, z, iz, g5⟩ := zz
        have hI5 := w5.fut.still (cur4.there.choose_spec) hI4
        have hD5 := w5.fut.still hd4 hD4
        obtain ⟨oC4, eC4⟩ := F4.there (i := vars.length) (n := x) (l := .loc C) (by rw [List.getElem?_append_right (Nat.le_refl _), Nat.sub_self]; rfl)
        have hC5 := w5.fut.still eC4 hC4
        have cur5 : Cur s5.heap I a src (i + 1) := cur4.keep fun o e => w5.fut.keep _ _ e hI4 (fun h => nomatch h)
        have hd5 := w5.fut.keep _ _ hd4 hD4 (fun h => nomatch h)
        have F5 := F4.keep w5.fut
        obtain ⟨⟨h5, tk5, es5⟩, u5⟩ := w5
        subst es5
        dsimp only at S5 cur5 hd5 F5 u5
        have u5' : Fut [I] σ s.heap σ5 h5 := u4'.comp u5 (fun b hb => nomatch hb) fun b hb => by
          have : b = I := by simpa using hb
          subst this; exact cur4.there
        refine wpAny_list_append_plain ⟨n, hd5⟩ (fun h6 hp6 hs6 => ?_) (by rw [List.size_toArray, hv1.length, sizeLine_eq]; omega)
        obtain ⟨n6, hp6⟩ := hp6
        rw [List.push_toArray] at hp6
        have y6 : Fut [D] σ5 h5 σ5 h6 := Fut.same fun b o hw e => hs6.extBut b o (by simpa using hw) e
        refine ⟨xs.length + 1 - (i + 1), by omega, σ5, i + 1, us ++ [ev], n6, acc ++ [z], _, rfl, hlt, Way.of (u5'.comp y6 (fun b hb => ?_) fun b hb => ?_), S5.aside G.ok fun b o e hσ => hs6.extBut b o (fun z => ?_) e, hI5, hD5, hC5, hp6, hv1.append (.cons iz .nil), by rw [List.length_append]; show _ + 1 ≤ _; omega,
          cur5.keep fun o e => hs6.extBut _ _ hID e, F5.keepW y6 fun i n l e => by have := (hvC i n l e).1; simpa using this, g5⟩
        · have : b = D := by simpa using hb
          subst this; exact .inr hDn
        · have : b = I := by simpa using hb
          subst this; exact cur5.there
        · subst z; rcases hσ with z | z; exact z hD5; exact z hDb
  refine codeAny_compStart_list (loop _) ?_
  have cur1 : Cur h₁ I a src 0 := hcur.keep fun o e => old _ _ e
  cases src with
  | list m ys => exact wpAny_pyIter_listiter cur1 (loop _)
  | tup ys => exact wpAny_pyIter_tupleiter cur1 (loop _)
  | dict es ep => exact wpAny_pyIter_keyiter cur1 (loop _)
  | range n => exact wpAny_pyIter_rangeiter cur1 (loop _)
  | _ => exact hcur.elim
end Mine
end
section
open PySem PySem.W PyProof.Rows PySem.SeqAt
set_option Elab.async false
set_option maxRecDepth 100000
namespace Mine
variable {κ : Kx} {Γ : Gx} {meths : List (PySem.Str × Addr)} {d : Nat} {env : Env} {vars : List (PySem.Str × Loc)}
noncomputable def adrs (vars : List (PySem.Str × Loc)) : List Addr := vars.map (·.2.adr)
theorem mem_adrs {i : Nat} {n : PySem.Str} {l : Loc} (e : vars[i]? = some (n, l)) : l.adr ∈ adrs vars := List.mem_map.mpr ⟨(n, l), List.mem_of_getElem? e, rfl⟩
theorem of_adrs {b : Addr} (h : b ∈ adrs vars) : ∃ (i : Nat) (n : PySem.Str) (l : Loc), vars[i]? = some (n, l) ∧ l.adr = b := by
  obtain ⟨⟨n, l⟩, hp, e⟩ := List.mem_map.mp h
  obtain ⟨i, hi⟩ := List.getElem?_of_mem hp
  exact ⟨i, n, l, hi, e⟩
theorem FrameSt.live {ε : Env0} {σ : Sto} {h : Heap} (F : FrameSt vars ε σ h) : ∀ b ∈ adrs vars, ∃ o, h.get? b = some o := fun b hb => by
  obtain ⟨i, n, l, e, rfl⟩ := of_adrs hb
  exact F.there e
structure Fo (κ : Kx) (env : Env) (ce : CEnv) (vars : List (PySem.Str × Loc)) : Prop where
  eo : EnvOk env ce vars
  hb : ∀ (i : Nat) (n : PySem.Str) (l : Loc), vars[i]? = some (n, l) → κ.base.get? l.adr = none
theorem Fo.comp {ce : CEnv} {scope : Scope} {x : PySem.Str} (fo : Fo κ env ce vars) {C : Addr} (hC : κ.base.get? C = none) (h : EnvOk (compEnvC scope (closOf env.cells scope.names []) C env) (compCE scope.names ce x) (vars ++ [(x, .loc C)])) :
    Fo κ (compEnvC scope (closOf env.cells scope.names []) C env) (compCE scope.names ce x) (vars ++ [(x, .loc C)]) := by
  refine ⟨h, fun i n l e => ?_⟩
  by_cases z : i < vars.length
  · rw [List.getElem?_append_left z] at e; exact fo.hb i n l e
  · rw [List.getElem?_append_right (by omega)] at e
    cases z : i - vars.length with
    | zero => rw [z] at e; simp at e; obtain ⟨_, rfl⟩ := e; exact hC
    | succ k => rw [z] at e; simp at e
theorem se_comp {ce : CEnv} (G : GOk κ Γ meths d) (fo : Fo κ env ce vars) {elt iter : PySem.Expr} {ifs : List PySem.Expr} {x : PySem.Str} {px pos : Pos} {scope : Scope} {pe pi : PE} {pc : PC} {t : Nat} (hc : compOk scope ce x = true) (ht : ce.vs.length = t) (hfold : ∀ v, foldedSetIterable iter env v = pure v)
    (hit : SE κ d env vars iter (wpE Γ pi))
    (helt : ∀ C, Fo κ (compEnvC scope (closOf env.cells scope.names []) C env) (compCE scope.names ce x) (vars ++ [(x, .loc C)]) → SE κ d (compEnvC scope (closOf env.cells scope.names []) C env) (vars ++ [(x, .loc C)]) elt (wpE Γ pe))
    (htest : ∀ C, Fo κ (compEnvC scope (closOf env.cells scope.names []) C env) (compCE scope.names ce x) (vars ++ [(x, .loc C)]) → STs κ d (compEnvC scope (closOf env.cells scope.names []) C env) (vars ++ [(x, .loc C)]) ifs (wpC Γ pc)) :
    SE κ d env vars (.ListComp elt [⟨.Name x px, iter, ifs, 0⟩] scope pos) (wpE Γ (.comp pe t pi pc)) := by
  rintro A s σ ε q r S F hq
  have co := compOk_of hc
  subst ht
  rw [← fo.eo.len] at hq
  unfold Goes
  rw [eval_ListComp]
  refine wpAny_comprehension_free (use := none) rfl hfold (co.closure fo.eo) co.kind co.names (wpAny_mono (hit A s σ ε _ r S F hq) (fun v s1 zz => ?_) fun _ _ z => z)
  obtain ⟨σ1, w1, S1, y, iy, a, src, xs, e1, e2, hi, hz, g⟩ := zz
  subst e1
  cases iy
  refine iter_ok G S1 e2 hi (by omega) fun ob cur => ?_
  have hIn := fresh_none s1.heap
  have hIσ := S1.none_of G.ok hIn
  have F1 := F.keep w1.fut
  have w0 : Way [] σ1 s1 σ1 { s1 with heap := s1.heap.push ob } := Way.push [] σ1 s1 ob
  refine comp_core G fo.eo co fo.hb (RR := fun acc C => compPost (model κ.prog κ.w) A noE none _ acc C) r (S1.pushed G.ok ob) (F1.keep w0.fut) hi hz cur hIσ (fun i n l e z => ?_) (S1.base_none hIn) g (fun C hC ho => helt C (fo.comp hC ho)) (fun C hC ho => htest C (fo.comp hC ho)) ?_
  · obtain ⟨o, eo⟩ := F1.there e
    rw [z, hIn] at eo; cases eo
  · intro D C σ' s' us n ys m hD hC hDC w2 S2 hDσ hCσ hd hv hl hn g2
    refine ⟨m, hn, fun h' hs' => ?_⟩
    have down : ∀ b, (s1.heap.push ob).get? b = none → s1.heap.get? b = none := fun b hb => by
      cases q : s1.heap.get? b with
      | none => rfl
      | some o => rw [Heap.get?_push_of_some _ q] at hb; cases hb
    have hD1 := down D hD
    have hC1 := down C hC
    obtain ⟨⟨h2, tk2, es⟩, u2⟩ := w2
    subst es
    dsimp only at S2 hd hn u2 hs'
    have u3 : Fut [] σ1 s1.heap σ' h2 := w0.fut.comp u2 (fun b hb => by
      have : b = s1.heap.objs.size := by simpa using hb
      subst this; exact .inr hIn) fun b hb => nomatch hb
    have y4 : Fut [C] σ' h2 σ' h' := Fut.same fun b o hw e => hs'.extBut b o (by simpa using hw) e
    have u4 : Fut [] σ1 s1.heap σ' h' := u3.comp y4 (fun b hb => by
      have : b = C := by simpa using hb
      subst this; exact .inr hC1) fun b hb => nomatch hb
    have S4 : St κ σ' { s1 with heap := h', toks := tk2 } := S2.aside G.ok fun b o e hσ => hs'.extBut b o (fun z => by subst z; rcases hσ with z | z; exact z hCσ; exact z (S1.base_none hC1)) e
    obtain ⟨a1, a2, a3⟩ := after_adopt G (tk := tk2) (ao := .list true ys) (h' := h') S1 hD1 (Way.of u4) S4 hDσ (fun b o _ e => e) ⟨us, n, hs'.extBut _ _ hDC hd, hv, fun _ => S1.base_none hD1, by omega⟩
    exact After.up w1 ⟨_, a2, a1, _, .ref D, g2 D a3⟩
inductive FlIs : Flow → Fl → Prop
  | next : FlIs .next .next
  | brk : FlIs .brk .brk
  | cont : FlIs .cont .cont
  | ret {v : Value} {x : V} : Is v x → FlIs (.ret v) (.ret x)
noncomputable def EndsE (κ : Kx) (vars : List (PySem.Str × Loc)) (σ : Sto) (s : Shared) (q : PostE) (s' : Shared) : Prop :=
  ∃ σ' ε', Way (adrs vars) σ s σ' s' ∧ St κ σ' s' ∧ FrameSt vars ε' σ' s'.heap ∧ q ε' σ'
noncomputable def Ends (κ : Kx) (vars : List (PySem.Str × Loc)) (σ : Sto) (s : Shared) (q : PostF) (f : Flow) (s' : Shared) : Prop := ∃ fl, FlIs f fl ∧ EndsE κ vars σ s (q fl) s'
theorem EndsE.up {ε : Env0} {σ σ1 : Sto} {s s1 s2 : Shared} {q : PostE} (w : Way (adrs vars) σ s σ1 s1) (F : FrameSt vars ε σ1 s1.heap) (h : EndsE κ vars σ1 s1 q s2) : EndsE κ vars σ s q s2 := by
  obtain ⟨σ2, ε2, w2, r⟩ := h
  exact ⟨σ2, ε2, w.transW w2 F.live, r⟩
theorem Ends.up {ε : Env0} {σ σ1 : Sto} {s s1 s2 : Shared} {q : PostF} {f : Flow} (w : Way (adrs vars) σ s σ1 s1) (F : FrameSt vars ε σ1 s1.heap) (h : Ends κ vars σ1 s1 q f s2) : Ends κ vars σ s q f s2 := by
  obtain ⟨fl, a, b⟩ := h
  exact ⟨fl, a, b.up w F⟩
noncomputable def TT (κ : Kx) (d : Nat) (env : Env) (vars : List (PySem.Str × Loc)) (t : PySem.Expr) (w : V → PostE → PostE) : Prop :=
  ∀ A s σ ε q v x, Room A d → St κ σ s → FrameSt vars ε σ s.heap → Is v x → w x q ε σ → wpAny (model κ.prog κ.w) A (assign t env v) (fun _ s' => EndsE κ vars σ s q s') noE s
noncomputable def TTs (κ : Kx) (Γ : Gx) (d : Nat) (env : Env) (vars : List (PySem.Str × Loc)) (ts : List PySem.Expr) (pts : PTs) : Prop :=
  (assignEach ts env).length = ptsLen pts ∧ (assignEach ts env).findIdx? (·.1) = none ∧
  ∀ A s σ ε q vs xs, Room A d → St κ σ s → FrameSt vars ε σ s.heap → Vals vs xs → wpTs Γ pts xs q ε σ → wpAny (model κ.prog κ.w) A (assignInOrder ((assignEach ts env).map (·.2)) vs) (fun _ s' => EndsE κ vars σ s q s') noE s
noncomputable def SS (κ : Kx) (d : Nat) (env : Env) (vars : List (PySem.Str × Loc)) (st : PySem.Stmt) (w : PostF → PostE) : Prop :=
  ∀ A s σ ε q, Room A d → St κ σ s → FrameSt vars ε σ s.heap → w q ε σ → wpAny (model κ.prog κ.w) A (exec st env) (fun f s' => Ends κ vars σ s q f s') noE s
noncomputable def SSs (κ : Kx) (d : Nat) (env : Env) (vars : List (PySem.Str × Loc)) (sts : List PySem.Stmt) (w : PostF → PostE) : Prop :=
  ∀ A s σ ε q, Room A d → St κ σ s → FrameSt vars ε σ s.heap → w q ε σ → wpAny (model κ.prog κ.w) A (execs sts env) (fun f s' => Ends κ vars σ s q f s') noE s
theorem store_go {ce : CEnv} (G : GOk κ Γ meths d) (fo : Fo κ env ce vars) {n : PySem.Str} {i : Nat} (hi : ce.var n = some i) {A : Around} {s : Shared} {σ : Sto} {ε : Env0} {q : PostE} {v : Value} {x : V} (S : St κ σ s) (F : FrameSt vars ε σ s.heap) (hv : Is v x) (hq : q (ε.set i (some x)) σ) :
    wpAny (model κ.prog κ.w) A (storeName env n v) (fun _ s' => EndsE κ vars σ s q s') noE s :=
  store_var (W := adrs vars) G.ok fo.eo S F hi hv fo.hb (fun m l e => mem_adrs e) fun h' tk S' u F' => ⟨σ, _, Way.of u, S', F', hq⟩
theorem tt_var {ce : CEnv} (G : GOk κ Γ meths d) (fo : Fo κ env ce vars) {n : PySem.Str} {pos : Pos} {i : Nat} (hi : ce.var n = some i) : TT κ d env vars (.Name n pos) (wpT Γ (.var i)) := by
  rintro A s σ ε q v x r S F hv ⟨_, hq⟩
  exact wpAny_assign_Name (store_go G fo hi S F hv hq)
theorem tts_nil : TTs κ Γ d env vars [] .nil := by
  refine ⟨rfl, rfl, fun A s σ ε q vs xs r S F hv hq => ?_⟩
  obtain ⟨e, hq⟩ := hq
  subst e
  cases hv
  exact wpAny_pure ⟨σ, ε, Way.refl _ _ _, S, F, hq⟩
theorem tts_cons {t : PySem.Expr} {ts : List PySem.Expr} {pt : PT} {pts : PTs} (hst : assignEach (t :: ts) env = (false, assign t env) :: assignEach ts env) (h1 : TT κ d env vars t (wpT Γ pt)) (h2 : TTs κ Γ d env vars ts pts) : TTs κ Γ d env vars (t :: ts) (.cons pt pts) := by
  obtain ⟨l, f, h2⟩ := h2
  refine ⟨by rw [hst, List.length_cons, l]; rfl, by rw [hst, List.findIdx?_cons, f]; rfl, fun A s σ ε q vs xs r S F hv hq => ?_⟩
  obtain ⟨x, xr, e, hq⟩ := hq
  subst e
  cases hv with
  | cons iv hr =>
    rw [hst]
    show wpAny _ _ (holding _ (assign t env _) >>= fun _ => assignInOrder ((assignEach ts env).map (·.2)) _) _ _ _
    refine wpAny_bind (wpAny_holding (wpAny_mono (h1 A s σ ε _ _ x r S F iv hq) (fun _ s1 zz => ?_) fun _ _ z => z))
    obtain ⟨σ1, ε1, w1, S1, F1, q1⟩ := zz
    exact wpAny_mono (h2 A s1 σ1 ε1 q _ xr r S1 F1 hr q1) (fun _ s2 h => h.up w1 F1) fun _ _ z => z
theorem tt_tup (G : GOk κ Γ meths d) {ts : List PySem.Expr} {k : Nat} {pos : Pos} {pts : PTs} (h : TTs κ Γ d env vars ts pts) : TT κ d env vars (.Tuple ts k pos) (wpT Γ (.tup pts)) := by
  obtain ⟨hl, hf, h⟩ := h
  rintro A s σ ε q v x r S F hv ⟨a, xs, e1, e2, e3, hq⟩
  subst e1
  cases hv
  obtain ⟨vs, l1, hvs⟩ := look_sits G S e2
  refine wpAny_assign_Tuple r.handled l1 (by rw [hl, List.size_toArray, hvs.length, e3]) hf fun h' he => ?_
  have y : Fut [] σ s.heap σ h' := Fut.same fun b o _ e => he b o (Nat.ne_of_lt (Heap.lt_size e)) e
  have w : Way [] σ s σ { s with heap := h' } := Way.of' y
  have S1 : St κ σ { s with heap := h' } := S.aside G.ok (tk := s.toks) fun b o e _ => he b o (Nat.ne_of_lt (Heap.lt_size e)) e
  refine wpAny_mono (h A _ σ ε q vs xs r S1 (F.keep y) hvs hq) (fun _ s2 z => z.up w.weak (F.keep y)) fun _ _ z => z
theorem ss_fail {st : PySem.Stmt} : SS κ d env vars st (wpS Γ .fail) := fun _ _ _ _ _ _ _ _ h => h.elim
theorem sss_nil : SSs κ d env vars [] (wpSs Γ .nil) := fun _ s σ ε _ _ S F hq => wpAny_execs_nil ⟨.next, .next, σ, ε, Way.refl _ _ _, S, F, hq⟩
theorem sss_cons {st : PySem.Stmt} {sts : List PySem.Stmt} {p : PS} {ps : PSs} (h1 : SS κ d env vars st (wpS Γ p)) (h2 : SSs κ d env vars sts (wpSs Γ ps)) : SSs κ d env vars (st :: sts) (wpSs Γ (.cons p ps)) := by
  rintro A s σ ε q r S F hq
  refine wpAny_execs_cons (wpAny_mono (h1 A s σ ε _ r S F hq) (fun f s1 zz => ?_) fun _ _ z => z)
  obtain ⟨fl, hf, σ1, ε1, w1, S1, F1, q1⟩ := zz
  cases hf with
  | next => exact wpAny_mono (h2 A s1 σ1 ε1 q r S1 F1 q1) (fun f s2 z => z.up w1 F1) fun _ _ z => z
  | brk => exact ⟨.brk, .brk, σ1, ε1, w1, S1, F1, q1⟩
  | cont => exact ⟨.cont, .cont, σ1, ε1, w1, S1, F1, q1⟩
  | ret iv => exact ⟨_, .ret iv, σ1, ε1, w1, S1, F1, q1⟩
theorem ss_expr {ce : CEnv} (fo : Fo κ env ce vars) {e : PySem.Expr} {pos : Pos} {pe : PE} (hs : swapsWith e none pos.line env = pure false) (h : SE κ d env vars e (wpE Γ pe)) : SS κ d env vars (.Expr e pos) (wpS Γ (.expr pe)) := by
  rintro A s σ ε q r S F hq
  refine wpAny_Expr (wpAny_mono (h A s σ ε _ r S F hq) (fun v s1 zz => ?_) fun _ _ z => z) (by unfold interactive; rw [fo.eo.kind]; rfl) hs
  obtain ⟨σ1, w1, S1, x, ix, hn, q1⟩ := zz
  have : Ends κ vars σ s q .next s1 := ⟨.next, .next, σ1, ε, w1.weak, S1, F.keep w1.fut, q1⟩
  cases ix with
  | ref a => exact absurd rfl (hn a)
  | _ => exact this
theorem ss_ret {e : PySem.Expr} {pos : Pos} {pe : PE} (h : SE κ d env vars e (wpE Γ pe)) : SS κ d env vars (.Return (some e) pos) (wpS Γ (.ret pe)) := by
  rintro A s σ ε q r S F hq
  exact wpAny_Return_some (wpAny_mono (h A s σ ε _ r S F hq) (fun v s1 ⟨σ1, w1, S1, x, ix, q1⟩ => ⟨_, .ret ix, σ1, ε, w1.weak, S1, F.keep w1.fut, q1⟩) fun _ _ z => z)
theorem ss_if {c : PySem.Expr} {a b : List PySem.Stmt} {pos : Pos} {pc : PC} {pa pb : PSs} (hc : SC κ d env vars c (wpC Γ pc)) (ha : SSs κ d env vars a (wpSs Γ pa)) (hb : SSs κ d env vars b (wpSs Γ pb)) : SS κ d env vars (.If c a b pos) (wpS Γ (.ite pc pa pb)) := by
  rintro A s σ ε q r S F hq
  refine wpAny_If (wpAny_mono (hc A s σ ε _ r S F hq) (fun t s1 zz => ?_) fun _ _ z => z)
  obtain ⟨σ1, w1, S1, q1⟩ := zz
  have F1 := F.keep w1.fut
  cases t with
  | true => exact wpAny_mono (ha A s1 σ1 ε q r S1 F1 q1) (fun f s2 z => z.up w1.weak F1) fun _ _ z => z
  | false => exact wpAny_mono (hb A s1 σ1 ε q r S1 F1 q1) (fun f s2 z => z.up w1.weak F1) fun _ _ z => z
theorem ss_name {ce : CEnv} (G : GOk κ Γ meths d) (fo : Fo κ env ce vars) {n : PySem.Str} {p pos : Pos} {e : PySem.Expr} {pe : PE} {i : Nat} (hi : ce.var n = some i) (hs : swapsWith e (some (.Name n p)) pos.line env = pure false) (h : SE κ d env vars e (wpE Γ pe)) :
    SS κ d env vars (.Assign [.Name n p] e pos) (wpS Γ (.asg (.var i) pe)) := by
  rintro A s σ ε q r S F hq
  refine wpAny_Assign_Name (wpAny_mono (h A s σ ε _ r S F hq) (fun v s1 zz => ?_) fun _ _ z => z) hs
  obtain ⟨σ1, w1, S1, x, ix, _, q1⟩ := zz
  exact wpAny_mono (store_go G fo hi S1 (F.keep w1.fut) ix (q := q .next) q1) (fun _ s2 z => ⟨.next, .next, z.up w1.weak (F.keep w1.fut)⟩) fun _ _ z => z
theorem ss_attr (G : GOk κ Γ meths d) {o : PySem.Expr} {n : PySem.Str} {p pos : Pos} {e : PySem.Expr} {pe po : PE} {i : Nat} (hi : κ.names[i]? = some n) (hs : swapsWith e (some (.Attribute o n p)) pos.line env = pure false) (h : SE κ d env vars e (wpE Γ pe)) (ho : SE κ d env vars o (wpE Γ po)) :
    SS κ d env vars (.Assign [.Attribute o n p] e pos) (wpS Γ (.asg (.attr po i) pe)) := by
  rintro A s σ ε q r S F hq
  refine plainObj_wpAny_Assign_Attribute (wpAny_mono (h A s σ ε _ r S F hq) (fun v s1 zz => ?_) fun _ _ z => z) hs
  obtain ⟨σ1, w1, S1, x, ix, q1⟩ := zz
  have F1 := F.keep w1.fut
  refine wpAny_mono (ho A s1 σ1 ε _ r S1 F1 q1) (fun ov s2 zz => ?_) fun _ _ z => z
  obtain ⟨σ2, w2, S2, y, iy, a, fs, e1, e2, hl, q2⟩ := zz
  subst e1
  cases iy
  have F2 := F1.keep w2.fut
  exact put_ok G S2 e2 hi hl ix fun h' tk S3 u3 => ⟨.next, .next, _, ε, ((w1.trans w2).trans (Way.of u3)).weak, S3, F2.keep u3, q2⟩
theorem ss_sub (G : GOk κ Γ meths d) {o i : PySem.Expr} {p pos : Pos} {e : PySem.Expr} {pe po pi : PE} (hs : swapsWith e (some (.Subscript o i p)) pos.line env = pure false) (h : SE κ d env vars e (wpE Γ pe)) (ho : SE κ d env vars o (wpE Γ po)) (hi : SE κ d env vars i (wpE Γ pi)) :
    SS κ d env vars (.Assign [.Subscript o i p] e pos) (wpS Γ (.asg (.sub po pi) pe)) := by
  rintro A s σ ε q r S F hq
  refine wpAny_Assign_Subscript (wpAny_mono (h A s σ ε _ r S F hq) (fun v s1 zz => ?_) fun _ _ z => z) hs
  obtain ⟨σ1, w1, S1, x, ix, q1⟩ := zz
  refine wpAny_mono (ho A s1 σ1 ε _ r S1 (F.keep w1.fut) q1) (fun ov s2 zz => ?_) fun _ _ z => z
  obtain ⟨σ2, w2, S2, y, iy, q2⟩ := zz
  refine wpAny_mono (hi A s2 σ2 ε _ r S2 (F.keep (w1.trans w2).fut) q2) (fun iv s3 zz => ?_) fun _ _ z => z
  obtain ⟨σ3, w3, S3, k, ik, a, j, es, ep, e1, e2, e3, hz, q3⟩ := zz
  subst e1 e2
  cases iy
  cases ik
  have w := (w1.trans w2).trans w3
  exact set_item G S3 e3 hz ix fun h' tk ep' S4 u4 => ⟨.next, .next, _, ε, (w.trans (Way.of u4)).weak, S4, (F.keep w.fut).keep u4, q3 ep'⟩
theorem ss_tup {ts : List PySem.Expr} {k : Nat} {p pos : Pos} {e : PySem.Expr} {pe : PE} {pts : PTs} (hs : swapsWithSole [.Tuple ts k p] e pos.line env = pure false) (hw : swappedStores [.Tuple ts k p] e env = pure none) (h : SE κ d env vars e (wpE Γ pe)) (ht : TT κ d env vars (.Tuple ts k p) (wpT Γ (.tup pts))) :
    SS κ d env vars (.Assign [.Tuple ts k p] e pos) (wpS Γ (.asg (.tup pts) pe)) := by
  rintro A s σ ε q r S F hq
  refine Assign_Tuple (wpAny_mono (h A s σ ε _ r S F hq) (fun v s1 zz => ?_) fun _ _ z => z) hs hw
  obtain ⟨σ1, w1, S1, x, ix, q1⟩ := zz
  have F1 := F.keep w1.fut
  exact wpAny_mono (ht A s1 σ1 ε (q .next) v x r S1 F1 ix q1) (fun _ s2 z => ⟨.next, .next, z.up w1.weak F1⟩) fun _ _ z => z
theorem order_go {ce : CEnv} (G : GOk κ Γ meths d) (fo : Fo κ env ce vars) : ∀ (ns : List PySem.Str) (is : List Nat) (vs : List Value) (xs : List V) (A : Around) (s : Shared) (σ : Sto) (ε : Env0) (q : PostE), is = ns.filterMap ce.var → ns.all (fun n => (ce.var n).isSome) = true → vs.length = ns.length → Vals vs xs → St κ σ s → FrameSt vars ε σ s.heap →
    q (setAll is xs ε) σ → wpAny (model κ.prog κ.w) A (assignInOrder (ns.map fun n => bindName env n) vs) (fun _ s' => EndsE κ vars σ s q s') noE s
  | [], is, vs, xs, A, s, σ, ε, q, hi, _, hl, hv, S, F, hq => by
    subst hi
    cases vs with
    | nil => cases hv; exact wpAny_pure ⟨σ, ε, Way.refl _ _ _, S, F, hq⟩
    | cons => cases hl
  | n :: ns, is, vs, xs, A, s, σ, ε, q, hi, ha, hl, hv, S, F, hq => by
    have ha' := Bool.and_eq_true_iff.mp ha
    obtain ⟨i, hn⟩ := Option.isSome_iff_exists.mp ha'.1
    rw [List.filterMap_cons, hn] at hi
    subst hi
    cases hv with
    | nil => cases hl
    | cons iv hr =>
      show wpAny _ _ (holding _ (bindName env n _) >>= fun _ => assignInOrder (ns.map fun n => bindName env n) _) _ _ _
      refine wpAny_bind (wpAny_holding (wpAny_bindName (wpAny_mono (store_go G fo hn S F iv (q := fun ε' σ' => q (setAll (ns.filterMap ce.var) _ ε') σ') hq) (fun _ s1 zz => ?_) fun _ _ z => z)))
      obtain ⟨σ1, ε1, w1, S1, F1, q1⟩ := zz
      exact wpAny_mono (order_go G fo ns _ _ _ A s1 σ1 ε1 q rfl ha'.2 (by simpa using hl) hr S1 F1 q1) (fun _ s2 z => z.up w1 F1) fun _ _ z => z
theorem ss_swap {ce : CEnv} (G : GOk κ Γ meths d) (fo : Fo κ env ce vars) {ts : List PySem.Expr} {k : Nat} {p pos : Pos} {e : PySem.Expr} {pe : PE} {ns : List PySem.Str} {is : List Nat} (hs : swapsWithSole [.Tuple ts k p] e pos.line env = pure false) (hw : swappedStores [.Tuple ts k p] e env = pure (some ns))
    (hi : is = ns.filterMap ce.var) (ha : ns.all (fun n => (ce.var n).isSome) = true) (h : SE κ d env vars e (wpE Γ pe)) : SS κ d env vars (.Assign [.Tuple ts k p] e pos) (wpS Γ (.asg (.rev is) pe)) := by
  rintro A s σ ε q r S F hq
  have hlen : is.length = ns.length := by
    subst hi
    clear hw hq
    induction ns with
    | nil => rfl
    | cons n ns ih =>
      have ha' := Bool.and_eq_true_iff.mp ha
      obtain ⟨i, hn⟩ := Option.isSome_iff_exists.mp ha'.1
      rw [List.filterMap_cons, hn, List.length_cons, List.length_cons, ih ha'.2]
  refine Assign_Tuple_swapped (wpAny_mono (h A s σ ε _ r S F hq) (fun v s1 zz => ?_) fun _ _ z => z) hs hw
  obtain ⟨σ1, w1, S1, x, ix, a, xs, e1, e2, hl, q1⟩ := zz
  subst e1
  cases ix
  have F1 := F.keep w1.fut
  obtain ⟨vs, l1, hvs⟩ := look_sits G S1 e2
  have hsz : ns.length = vs.toArray.size := by rw [List.size_toArray, hvs.length, hl, hlen]
  rw [hsz]
  refine unpackItems_tuple r.handled l1 fun h' he => ?_
  have y : Fut [] σ1 s1.heap σ1 h' := Fut.same fun b o _ e => he b o (Nat.ne_of_lt (Heap.lt_size e)) e
  have S2 : St κ σ1 { s1 with heap := h' } := S1.aside G.ok (tk := s1.toks) fun b o e _ => he b o (Nat.ne_of_lt (Heap.lt_size e)) e
  have w2 : Way [] σ s σ1 { s1 with heap := h' } := w1.trans (Way.of' y)
  have hrev : ∀ {vs : List Value} {xs : List V}, Vals vs xs → Vals vs.reverse xs.reverse := by
    intro vs xs h
    induction h with
    | nil => exact .nil
    | cons h1 _ ih => rw [List.reverse_cons, List.reverse_cons]; exact ih.append (.cons h1 .nil)
  refine wpAny_mono (order_go G fo ns.reverse is.reverse vs.toArray.toList.reverse xs.reverse A _ σ1 ε (q .next) (by rw [hi, List.filterMap_reverse]) (by rw [List.all_reverse]; exact ha) (by simp [hvs.length, hl, hlen]) (hrev hvs) S2 (F1.keep y) q1) (fun _ s2 z => ⟨.next, .next, z.up w2.weak (F1.keep y)⟩) fun _ _ z => z
end Mine
end
section
open PySem PySem.W PyProof.Rows PySem.SeqAt
set_option Elab.async false
set_option maxRecDepth 100000
namespace Mine
variable {κ : Kx} {Γ : Gx} {meths : List (PySem.Str × Addr)} {d : Nat} {env : Env} {vars : List (PySem.Str × Loc)}
theorem letgo_ok {A : Around} {s : Shared} {E : Value → Shared → Prop} {Q : Unit → Shared → Prop} {t : PySem.Expr} {I a : Addr} {src : AO} {i : Nat} {v : Value} (c : Cur s.heap I a src i) (h : Q () s) : wpAny (model κ.prog κ.w) A (letOwnedTupleGo t (.ref I) v) Q E s := by
  have base : wpAny (model κ.prog κ.w) A (do
      let (.ref r, .ref a) := ((.ref I : Value), v) | return
      let o ← load r
      match o.cls, o.data with
      | .type n, .fields vs =>
        if ["enumerate", "zip", "dict_itemiterator", "dict_reverseitemiterator", "odict_iterator", "itertools.zip_longest", "itertools.pairwise"].contains n && vs[0]? == some (rawInt a) then
          rule "for.unpacks-the-owned-tuple"
          updateField r 0 .none
      | _, _ => pure ()) Q E s := by
    cases v with
    | ref b =>
      show wpAny _ _ (load I >>= _) _ _ _
      cases src with
      | list m ys =>
        obtain ⟨o, e, c1, c2⟩ := c
        refine wpAny_bind (wpAny_load e ?_)
        rw [c1, c2]
        exact wpAny_ite (by rw [if_neg (fun z => absurd (Bool.and_eq_true_iff.mp z).1 (by decide))]; exact wpAny_pure h)
      | tup ys =>
        obtain ⟨o, e, c1, c2⟩ := c
        refine wpAny_bind (wpAny_load e ?_)
        rw [c1, c2]
        exact wpAny_ite (by rw [if_neg (fun z => absurd (Bool.and_eq_true_iff.mp z).1 (by decide))]; exact wpAny_pure h)
      | dict es ep =>
        obtain ⟨o, e, c1, c2⟩ := c
        refine wpAny_bind (wpAny_load e ?_)
        rw [c1, c2]
        exact wpAny_ite (by rw [if_neg (fun z => absurd (Bool.and_eq_true_iff.mp z).1 (by decide))]; exact wpAny_pure h)
      | range n =>
        refine wpAny_bind (wpAny_load c ?_)
        exact wpAny_ite (by rw [if_neg (fun z => absurd (Bool.and_eq_true_iff.mp z).1 (by decide))]; exact wpAny_pure h)
      | _ => exact c.elim
    | _ => exact wpAny_pure h
  unfold letOwnedTupleGo
  cases t <;> first | exact wpAny_pure h | exact base
theorem ss_for {ce : CEnv} (G : GOk κ Γ meths d) (fo : Fo κ env ce vars) {t it : PySem.Expr} {b : List PySem.Stmt} {pos : Pos} {pt : PT} {pi : PE} {pb : PSs} (hfold : ∀ v, foldedSetIterable it env v = pure v) (hit : SE κ d env vars it (wpE Γ pi)) (ht : TT κ d env vars t (wpT Γ pt)) (hb : SSs κ d env vars b (wpSs Γ pb)) :
    SS κ d env vars (.For t it b [] pos) (wpS Γ (.for_ pt pi pb)) := by
  rintro A s σ ε q r S F hq
  refine wpAny_For (wpAny_mono (hit A s σ ε _ r S F hq) (fun v s1 zz => ?_) fun _ _ z => z) hfold
  obtain ⟨σ1, w1, S1, y, iy, a, src, xs, e1, e2, hi, hz, g⟩ := zz
  subst e1
  cases iy
  refine iter_ok G S1 e2 hi hz fun ob cur => ?_
  have hIn := fresh_none s1.heap
  have hIσ := S1.none_of G.ok hIn
  have F1 := F.keep w1.fut
  have w0 : Way [] σ1 s1 σ1 { s1 with heap := s1.heap.push ob } := Way.push [] σ1 s1 ob
  have hIW : s1.heap.objs.size ∉ adrs vars := fun h => by obtain ⟨o, eo⟩ := F1.live _ h; rw [hIn] at eo; cases eo
  generalize hIe : s1.heap.objs.size = I at *
  have hIb : κ.base.get? I = none := S1.base_none hIn
  refine codeAny_forLoop_any (fun k s' => ∃ σ' i ε', k = xs.length + 1 - i ∧ i ≤ xs.length ∧ Way (adrs vars) σ1 s1 σ' s' ∧ St κ σ' s' ∧ σ' I = none ∧ Cur s'.heap I a src i ∧ FrameSt vars ε' σ' s'.heap ∧ goFor Γ (wpT Γ pt) (wpSs Γ pb) a src q (xs.drop i) ε' σ') ?_ (xs.length + 1)
    ⟨σ1, 0, ε, by omega, Nat.zero_le _, w0.weak, S1.pushed G.ok ob, hIσ, cur, F1.keep w0.fut, g⟩
  rintro k s' ⟨σ', i, ε', rfl, hle, w2, S2, hI2, cur2, F2, g2⟩
  have lookA : look Γ σ' a = some src := by
    cases e : xs.drop i with
    | nil => rw [e] at g2; exact g2.1
    | cons y ys => rw [e] at g2; exact g2.1
  obtain ⟨⟨h2, tk2, es2⟩, u2⟩ := w2
  subst es2
  dsimp only at S2 cur2 F2 u2
  have liveW : ∀ b ∈ adrs vars, ∃ o, h2.get? b = some o := F2.live
  -- the iterator's own step
  have step : ∀ h' tk, (∀ b o, b ≠ I → h2.get? b = some o → h'.get? b = some o) → Fut (adrs vars) σ1 s1.heap σ' h' ∧ St κ σ' { s1 with heap := h', toks := tk } ∧ FrameSt vars ε' σ' h' := by
    intro h' tk k
    have y : Fut [I] σ' h2 σ' h' := Fut.same fun b o hw e => k b o (by simpa using hw) e
    refine ⟨u2.comp y (fun b hb => ?_) liveW, S2.aside G.ok fun b o e hσ => k b o (fun z => ?_) e, F2.keepW y fun i n l e => ?_⟩
    · have : b = I := by simpa using hb
      subst this; exact .inr hIn
    · subst z; rcases hσ with z | z; exact z hI2; exact z hIb
    · intro hm
      have : l.adr = I := by simpa using hm
      exact hIW (this ▸ mem_adrs e)
  refine next_ok G r.handled S2 lookA hi hle hz cur2 (fun he h' k => ?_) fun y v h' tk' hy iv cur3 k => ?_
  · have hnil : xs.drop i = [] := List.drop_eq_nil_of_le (List.getElem?_eq_none_iff.mp he)
    rw [hnil] at g2
    obtain ⟨u3, S3, F3⟩ := step h' tk2 k
    exact wpAny_execs_nil ⟨.next, .next, σ', ε', (w1.weak.transW (Way.of u3) F1.live), S3, F3, g2.2⟩
  · have hlt : i < xs.length := (List.getElem?_eq_some_iff.mp hy).1
    have hdrop : xs.drop i = y :: xs.drop (i + 1) := by
      rw [List.drop_eq_getElem_cons hlt]
      rw [List.getElem?_eq_getElem hlt] at hy
      cases hy; rfl
    rw [hdrop] at g2
    obtain ⟨_, g2⟩ := g2
    obtain ⟨u3, S3, F3⟩ := step h' tk' k
    refine letgo_ok (s := { s1 with heap := h', toks := tk' }) cur3 ?_
    refine wpAny_mono (ht A _ σ' ε' _ v y r S3 F3 iv g2) (fun _ s4 zz => ?_) fun _ _ z => z.elim
    obtain ⟨σ4, ε4, w4, S4, F4, g4⟩ := zz
    have hI4 := w4.fut.still cur3.there.choose_spec hI2
    have cur4 : Cur s4.heap I a src (i + 1) := cur3.keep fun o e => w4.fut.keep _ _ e hI2 hIW
    refine wpAny_mono (hb A s4 σ4 ε4 _ r S4 F4 g4) (fun f s5 zz => ?_) fun _ _ z => z.elim
    obtain ⟨fl, hf, σ5, ε5, w5, S5, F5, g5⟩ := zz
    have hI5 := w5.fut.still cur4.there.choose_spec hI4
    have cur5 : Cur s5.heap I a src (i + 1) := cur4.keep fun o e => w5.fut.keep _ _ e hI4 hIW
    have wall : Way (adrs vars) σ1 s1 σ5 s5 := ((Way.of u3).transW w4 F3.live).transW w5 F4.live
    cases hf with
    | next => exact ⟨xs.length + 1 - (i + 1), by omega, σ5, i + 1, ε5, rfl, hlt, wall, S5, hI5, cur5, F5, g5⟩
    | cont => exact ⟨xs.length + 1 - (i + 1), by omega, σ5, i + 1, ε5, rfl, hlt, wall, S5, hI5, cur5, F5, g5⟩
    | brk => exact ⟨.next, .next, σ5, ε5, w1.weak.transW wall F1.live, S5, F5, g5⟩
    | ret iv => exact ⟨_, .ret iv, σ5, ε5, w1.weak.transW wall F1.live, S5, F5, g5⟩
theorem ss_while {c : PySem.Expr} {b : List PySem.Stmt} {pos : Pos} {pc : PC} {pb : PSs} (hc : SC κ d env vars c (wpC Γ pc)) (hb : SSs κ d env vars b (wpSs Γ pb)) : SS κ d env vars (.While c b [] pos) (wpS Γ (.while_ pc pb)) := by
  rintro A s σ ε q r S F ⟨n, g⟩
  refine wpAny_While (codeAny_whileLoop (fun k s' => ∃ σ' ε', Way (adrs vars) σ s σ' s' ∧ St κ σ' s' ∧ FrameSt vars ε' σ' s'.heap ∧ goWhile (wpC Γ pc) (wpSs Γ pb) q k ε' σ') ?_ n ⟨σ, ε, Way.refl _ _ _, S, F, g⟩)
  rintro k s1 ⟨σ1, ε1, w1, S1, F1, g1⟩
  cases k with
  | zero => exact g1.elim
  | succ k =>
    refine wpAny_mono (hc A s1 σ1 ε1 _ r S1 F1 g1) (fun t s2 zz => ?_) fun _ _ z => z.elim
    obtain ⟨σ2, w2, S2, g2⟩ := zz
    have F2 := F1.keep w2.fut
    have w := w1.transW (w2.weak (W := adrs vars)) F1.live
    cases t with
    | false => exact wpAny_execs_nil ⟨.next, .next, σ2, ε1, w, S2, F2, g2⟩
    | true =>
      refine wpAny_mono (hb A s2 σ2 ε1 _ r S2 F2 g2) (fun f s3 zz => ?_) fun _ _ z => z.elim
      obtain ⟨fl, hf, σ3, ε3, w3, S3, F3, g3⟩ := zz
      have w' := w.transW w3 F2.live
      cases hf with
      | next => exact ⟨k, Nat.lt_succ_self _, σ3, ε3, w', S3, F3, g3⟩
      | cont => exact ⟨k, Nat.lt_succ_self _, σ3, ε3, w', S3, F3, g3⟩
      | brk => exact ⟨.next, .next, σ3, ε3, w', S3, F3, g3⟩
      | ret iv => exact ⟨_, .ret iv, σ3, ε3, w', S3, F3, g3⟩
theorem ss_comp {ce : CEnv} (G : GOk κ Γ meths d) (fo : Fo κ env ce vars) {elt iter : PySem.Expr} {ifs : List PySem.Expr} {x : PySem.Str} {px pos : Pos} {scope : Scope} {pe pi : PE} {pc : PC} {t : Nat} {n : PySem.Str} {np spos : Pos} {j : Nat} (hc : compOk scope ce x = true) (ht : ce.vs.length = t) (hj : ce.var n = some j)
    (hsw : swapsWith (.ListComp elt [⟨.Name x px, iter, ifs, 0⟩] scope pos) (some (.Name n np)) spos.line env = pure true) (hfold : ∀ v, foldedSetIterable iter env v = pure v) (hit : SE κ d env vars iter (wpE Γ pi))
    (helt : ∀ C, Fo κ (compEnvC scope (closOf env.cells scope.names []) C env) (compCE scope.names ce x) (vars ++ [(x, .loc C)]) → SE κ d (compEnvC scope (closOf env.cells scope.names []) C env) (vars ++ [(x, .loc C)]) elt (wpE Γ pe))
    (htest : ∀ C, Fo κ (compEnvC scope (closOf env.cells scope.names []) C env) (compCE scope.names ce x) (vars ++ [(x, .loc C)]) → STs κ d (compEnvC scope (closOf env.cells scope.names []) C env) (vars ++ [(x, .loc C)]) ifs (wpC Γ pc)) :
    SS κ d env vars (.Assign [.Name n np] (.ListComp elt [⟨.Name x px, iter, ifs, 0⟩] scope pos) spos) (wpS Γ (.asg (.var j) (.comp pe t pi pc))) := by
  rintro A s σ ε q r S F hq
  have co := compOk_of hc
  subst ht
  show wpAny _ _ _ _ _ _
  have hq' : wpE Γ (.comp pe ce.vs.length pi pc) (fun x σ' => wpT Γ (.var j) x (q .next) ε σ') ε σ := hq
  rw [← fo.eo.len] at hq'
  rw [exec_Assign_Name_used _ _ _ _ hsw]
  refine wpAny_bind (wpAny_standAt (wpAny_bind ?_))
  show wpAny _ A (do let _ ← comprehension (.ListComp elt [⟨.Name x px, iter, ifs, 0⟩] scope pos) scope env _ (newList []) false (eval iter env) (some (assign (.Name n np) env))) _ _ s
  refine wpAny_bind (wpAny_mono (wpAny_comprehension_free (use := some (assign (.Name n np) env)) (Q := fun _ s' => Ends κ vars σ s q .next s') rfl hfold (co.closure fo.eo) co.kind co.names
    (wpAny_mono (hit A s σ ε _ r S F hq') (fun v s1 ⟨σ1, w1, S1, y, iy, a, src, xs, e1, e2, hi, hz, g⟩ => ?_) fun _ _ z => z)) (fun _ s' hq => wpAny_pure (wpAny_pure hq)) fun _ _ e => e)
  subst e1
  cases iy
  refine iter_ok G S1 e2 hi (by omega) fun ob cur => ?_
  have hIn := fresh_none s1.heap
  have hIσ := S1.none_of G.ok hIn
  have F1 := F.keep w1.fut
  have w0 : Way [] σ1 s1 σ1 { s1 with heap := s1.heap.push ob } := Way.push [] σ1 s1 ob
  refine comp_core G fo.eo co fo.hb (RR := fun acc C => compPost (model κ.prog κ.w) A noE (some (assign (.Name n np) env)) (fun _ s' => Ends κ vars σ s q .next s') acc C) r (S1.pushed G.ok ob) (F1.keep w0.fut) hi hz cur hIσ (fun i n l e z => ?_) (S1.base_none hIn) g (fun C hC ho => helt C (fo.comp hC ho)) (fun C hC ho => htest C (fo.comp hC ho)) ?_
  · obtain ⟨o, eo⟩ := F1.there e
    rw [z, hIn] at eo; cases eo
  · intro D C σ' s' us m ys mC hD hC hDC w2 S2 hDσ hCσ hd hv hl hn g2
    have down : ∀ b, (s1.heap.push ob).get? b = none → s1.heap.get? b = none := fun b hb => by
      cases q : s1.heap.get? b with
      | none => rfl
      | some o => rw [Heap.get?_push_of_some _ q] at hb; cases hb
    have hD1 := down D hD
    have hC1 := down C hC
    obtain ⟨⟨h2, tk2, es⟩, u2⟩ := w2
    subst es
    dsimp only at S2 hd hn u2
    have u3 : Fut [] σ1 s1.heap σ' h2 := w0.fut.comp u2 (fun b hb => by
      have : b = s1.heap.objs.size := by simpa using hb
      subst this; exact .inr hIn) fun b hb => nomatch hb
    obtain ⟨a1, a2, a3⟩ := after_adopt G (tk := tk2) (ao := .list true ys) (h' := h2) S1 hD1 (Way.of u3) S2 hDσ (fun b o _ e => e) ⟨us, m, hd, hv, fun _ => S1.base_none hD1, by omega⟩
    have F2 := F1.keep a2.fut
    have hCσ2 : (σ'.set D (.list true ys)) C = none := by rw [Sto.set_ne _ _ hDC.symm]; exact hCσ
    have hCW : C ∉ adrs vars := fun h => by obtain ⟨o, eo⟩ := F1.live _ h; rw [hC1] at eo; cases eo
    refine wpAny_mono (tt_var G fo hj A _ _ ε (q .next) (.ref D) (.ref D) r a1 F2 (.ref D) (g2 D a3)) (fun _ s3 zz => ?_) fun _ _ z => z
    obtain ⟨σ3, ε3, w3, S3, F3, q3⟩ := zz
    have hn3 : s3.heap.Ns C mC := hn.at' fun o e => w3.fut.keep _ _ e hCσ2 hCW
    refine ⟨mC, hn3, fun h4 hs4 => ?_⟩
    obtain ⟨oC, _, _, eC, _⟩ := id hn
    have hC3 := w3.fut.still eC hCσ2
    have y4 : Fut [C] σ3 s3.heap σ3 h4 := Fut.same fun b o hw e => hs4.extBut b o (by simpa using hw) e
    have wa : Way (adrs vars) σ1 s1 σ3 s3 := (a2.weak (W := adrs vars)).transW w3 F2.live
    obtain ⟨⟨h3, tk3, es3⟩, u5⟩ := wa
    subst es3
    dsimp only at S3 F3 hs4 y4 u5
    refine ⟨.next, .next, σ3, ε3, w1.weak.transW (Way.of (u5.comp y4 (fun b hb => ?_) F3.live)) F1.live, S3.aside G.ok fun b o e hσ => hs4.extBut b o (fun z => ?_) e, F3.keepW y4 fun i n l e => ?_, q3⟩
    · have : b = C := by simpa using hb
      subst this; exact .inr hC1
    · subst z; rcases hσ with z | z; exact z hC3; exact z (S1.base_none hC1)
    · intro hm
      have : l.adr = C := by simpa using hm
      exact hCW (this ▸ mem_adrs e)
theorem se_take {ce : CEnv} (G : GOk κ Γ meths d) (hd0 : 0 < d) (fo : Fo κ env ce vars) {n : PySem.Str} {p pos : Pos} {e : PySem.Expr} {pe : PE} {i : Nat} (hi : ce.var n = some i) (hd : (n == ("__debug__" : PySem.Str)) = false) (hst : notStar e = true) (he : SE κ d env vars e (wpE Γ pe)) :
    SE κ d env vars (.Call (.Name n p) [e] [] pos) (wpE Γ (.take (.var i) pe)) := by
  rintro A s σ ε q r S F ⟨x, hx, hq⟩
  refine Call_args (load_var fo.eo F hi hx hd fun f hf => ?_)
  have hst' : [e].all notStar = true := by simp [hst]
  have hs := ses_cons (star_cons (es := []) hst env) he (ses_nil (κ := κ) (Γ := Γ) (d := d) (env := env) (vars := vars))
  have hq' : wpEs Γ (.cons pe .nil) (fun xs σ' => ∃ y, xs = [y] ∧ takeW x y q σ') ε σ := by
    show wpE Γ pe (fun x' σ' => ∃ y, [x'] = [y] ∧ takeW x y q σ') ε σ
    exact cast (congrArg (fun z => wpE Γ pe z ε σ) (funext fun x' => funext fun σ' => propext ⟨fun h => ⟨x', rfl, h⟩, fun ⟨y, e, h⟩ => by cases e; exact h⟩)) hq
  refine callWith_of (P := fun h => ∃ a k F, f = .ref a ∧ κ.tk h a k F) (by rw [star_all hst']; rfl) (fun h ⟨a, k, F, e, t⟩ => by subst e; exact G.takeKeep h a k F t)
    (args_go (star_all hst' env pos) (wpAny_mono (hs A s σ ε _ pos r S F hq') (fun vs s1 ⟨σ1, w1, S1, xs, hv, _, y, e1, q1⟩ => ?_) fun _ _ z => z))
  subst e1
  cases hv with
  | cons iv hr =>
    cases hr
    cases hf with
    | ref a =>
      cases iv with
      | int lim t =>
        obtain ⟨k, e2, hk, h0, h1, hall⟩ := q1
        obtain ⟨F', ht, _⟩ := S1.sits _ _ e2
        exact ⟨⟨a, k, F', rfl, ht⟩, Goes.up w1 (G.take hd0 a k lim t A s1 σ1 q r S1 e2 hk h0 h1 hall)⟩
      | _ => exact q1.elim
    | _ => exact q1.elim
end Mine
end
section
open PySem PySem.W PyProof.Rows PySem.SeqAt
set_option Elab.async false
set_option maxRecDepth 100000
namespace Mine
variable {κ : Kx} {Γ : Gx} {meths : List (PySem.Str × Addr)} {d : Nat} {env : Env} {vars : List (PySem.Str × Loc)}
theorem snoc_get {α : Type} {l : List α} {a b : α} {i : Nat} (e : (l ++ [a])[i]? = some b) : l[i]? = some b ∨ (i = l.length ∧ b = a) := by
  by_cases q : i < l.length
  · rw [List.getElem?_append_left q] at e; exact .inl e
  · rw [List.getElem?_append_right (by omega)] at e
    cases z : i - l.length with
    | zero => rw [z] at e; simp at e; exact .inr ⟨by omega, e.symm⟩
    | succ k => rw [z] at e; simp at e
theorem snoc_last {α : Type} {l : List α} {a : α} {i : Nat} (h : i = l.length) : (l ++ [a])[i]? = some a := by
  subst h; rw [List.getElem?_append_right (Nat.le_refl _), Nat.sub_self]; rfl
theorem snoc_old {α : Type} {l : List α} {a b : α} {i : Nat} (h : l[i]? = some b) : (l ++ [a])[i]? = some b := by
  rw [List.getElem?_append_left (List.getElem?_eq_some_iff.mp h).1]; exact h
theorem EnvOk.more {ce : CEnv} (eo : EnvOk env ce vars) {x y : PySem.Str} {k : Nat} {C : Addr} (hC : env.locals = C) (hx : vars[k]? = some (x, .loc C)) (hy : ∀ (i : Nat) (n : PySem.Str) (l : Loc), vars[i]? = some (n, l) → l.adr = C → n ≠ y) : EnvOk env ⟨ce.names, ce.vs ++ [(y, .loc)]⟩ (vars ++ [(y, .loc C)]) := by
  subst hC
  refine ⟨eo.kind, eo.globals, eo.builtins, eo.names, by simp [eo.len], fun i j n n' l l' e e' hij hn => ?_, fun i j n n' c l' e e' hij => ?_, fun i n e => ?_, fun i n e => ?_⟩
  · rcases snoc_get e with a | ⟨a1, a2⟩ <;> rcases snoc_get e' with b | ⟨b1, b2⟩
    · exact eo.nodup i j n n' l l' a b hij hn
    · cases b2; exact fun z => hy _ _ _ a z hn
    · cases a2; exact fun z => hy _ _ _ b z.symm hn.symm
    · omega
  · rcases snoc_get e with a | ⟨a1, a2⟩ <;> rcases snoc_get e' with b | ⟨b1, b2⟩
    · exact eo.apart i j n n' c l' a b hij
    · cases b2
      refine eo.apart i k n x c _ a hx fun z => ?_
      subst z; rw [a] at hx; cases hx
    · cases a2
    · cases a2
  · rcases snoc_get e with a | ⟨a1, a2⟩
    · exact snoc_old (eo.loc i n a)
    · cases a2; exact snoc_last (by rw [a1, eo.len])
  · rcases snoc_get e with a | ⟨_, a2⟩
    · obtain ⟨c, h1, h2⟩ := eo.cell i n a
      exact ⟨c, snoc_old h1, h2⟩
    · cases a2
@[reducible] noncomputable def compCE2 (ns : List (PySem.Str × NameKind)) (ce : CEnv) (x y : PySem.Str) : CEnv := ⟨(compCE ns ce x).names, (compCE ns ce x).vs ++ [(y, .loc)]⟩
@[reducible] noncomputable def vars2 (vars : List (PySem.Str × Loc)) (x y : PySem.Str) (C : Addr) : List (PySem.Str × Loc) := (vars ++ [(x, .loc C)]) ++ [(y, .loc C)]
noncomputable def enumOk (scope : Scope) (ce : CEnv) (x y : PySem.Str) : Bool :=
  compOk scope ce x && x != y && (compCE2 scope.names ce x y).var x == some ce.vs.length && (compCE2 scope.names ce x y).var y == some (ce.vs.length + 1)
structure EnumOk (scope : Scope) (ce : CEnv) (x y : PySem.Str) : Prop where
  co : CompOk scope ce x
  ne : x ≠ y
  vx : (compCE2 scope.names ce x y).var x = some ce.vs.length
  vy : (compCE2 scope.names ce x y).var y = some (ce.vs.length + 1)
theorem enumOk_of {scope : Scope} {ce : CEnv} {x y : PySem.Str} (h : enumOk scope ce x y = true) : EnumOk scope ce x y := by
  unfold enumOk at h
  simp only [Bool.and_eq_true, bne_iff_ne, beq_iff_eq] at h
  obtain ⟨⟨⟨a, b⟩, c⟩, e⟩ := h
  exact ⟨compOk_of a, b, c, e⟩
structure Inv (κ : Kx) (Γ : Gx) (vs : List (PySem.Str × Loc)) (pe : PE) (t : Nat) (e it a D C : Addr) (src : AO) (q : List V → Sto → Prop) (xs : List V) (σ : Sto) (s : Shared) (i : Nat) (σ' : Sto) (s' : Shared) (us : List Value) (n : Nat) (acc : List V) (ε' : Env0) : Prop where
  le : i ≤ xs.length
  way : Way [e, it] σ s σ' s'
  st : St κ σ' s'
  se : σ' e = none
  si : σ' it = none
  sd : σ' D = none
  sc : σ' C = none
  hd : s'.heap.get? D = some (listOf us.toArray n)
  vals : Vals us acc
  len : acc.length ≤ i
  en : ∃ old, IsEnum s'.heap e it i old
  ite : s'.heap.IsListIter it a i
  fr : FrameSt vs ε' σ' s'.heap
  go : goCompE Γ (wpE Γ pe) t a src q i (xs.drop i) acc ε' σ'
theorem enum_core (G : GOk κ Γ meths d) {ce : CEnv} (eo : EnvOk env ce vars) {elt iter : PySem.Expr} {x y : PySem.Str} {px py tp pos : Pos} {tn : Nat} {scope : Scope} (co : EnumOk scope ce x y) (hb : ∀ (i : Nat) (n : PySem.Str) (l : Loc), vars[i]? = some (n, l) → κ.base.get? l.adr = none)
    {A : Around} {s : Shared} {σ : Sto} {ε : Env0} {e it a : Addr} {m : Bool} {xs : List V} {q : List V → Sto → Prop} {pe : PE} {RR : Value → Addr → Result → Shared → Prop} (r : Room A d) (S : St κ σ s) (F : FrameSt vars ε σ s.heap)
    (hz : xs.length ≤ 1000) (hen : IsEnum s.heap e it 0 .none) (hite : s.heap.IsListIter it a 0) (hne : e ≠ it) (hσe : σ e = none) (hσi : σ it = none) (hIv : ∀ (i : Nat) (n : PySem.Str) (l : Loc), vars[i]? = some (n, l) → l.adr ≠ e ∧ l.adr ≠ it) (hbe : κ.base.get? e = none) (hbi : κ.base.get? it = none)
    (hq : goCompE Γ (wpE Γ pe) vars.length a (.list m xs) q 0 xs [] ((ε ++ [none]) ++ [none]) σ)
    (helt : ∀ C, κ.base.get? C = none → EnvOk (compEnvC scope (closOf env.cells scope.names []) C env) (compCE2 scope.names ce x y) (vars2 vars x y C) → SE κ d (compEnvC scope (closOf env.cells scope.names []) C env) (vars2 vars x y C) elt (wpE Γ pe))
    (hRR : ∀ D C σ' s' us n ys m, s.heap.get? D = none → s.heap.get? C = none → D ≠ C → Way [e, it] σ s σ' s' → St κ σ' s' → σ' D = none → σ' C = none → s'.heap.get? D = some (listOf us.toArray n) → Vals us ys → ys.length ≤ 1000 → s'.heap.Ns C m →
      q ys σ' → RR (.ref D) C (.ok .next) s') :
    wpAny (model κ.prog κ.w) A (newList []) (fun acc s₃ => wpAny (model κ.prog κ.w) A (newFunctionEnv scope env.globals (closOf env.cells scope.names []) [] env.qual none .none (some env)) (fun cenv s₄ =>
      codeAny (model κ.prog κ.w) A (.compStart (.ListComp elt [⟨.Tuple [.Name x px, .Name y py] tn tp, iter, [], 0⟩] scope pos) 0 (.ref e) acc { cenv with scope := relabel scope env }) (RR acc cenv.locals) s₄) noE s₃) noE s := by
  refine wpAny_newObj_type (wpAny_newFunctionEnv co.co.cell (by intro y hy; simp at hy) (fun h₁ hns₁ hsb₁ => ?_) co.co.kind)
  dsimp only at hns₁ hsb₁ ⊢
  generalize hH2 : s.heap.push { cls := .type "list", dict := none, data := .seq ([] : List Value).toArray } = H2 at hns₁ hsb₁ ⊢
  have hC : H2.objs.size = s.heap.objs.size + 1 := by rw [← hH2, Heap.size_push]
  generalize hDe : s.heap.objs.size = D at hC ⊢
  generalize hCe : H2.objs.size = C at hC hns₁ hsb₁ ⊢
  have hDC : D ≠ C := by rw [hC]; exact Nat.ne_of_lt (Nat.lt_succ_self _)
  have lt_of : ∀ b o, s.heap.get? b = some o → b < D := fun b o e => hDe ▸ Heap.lt_size e
  have nC : ∀ b o, s.heap.get? b = some o → b ≠ C ∧ b ≠ D := fun b o e => ⟨by rw [hC]; exact Nat.ne_of_lt (Nat.lt_succ_of_lt (lt_of b o e)), Nat.ne_of_lt (lt_of b o e)⟩
  have old : ∀ b o, s.heap.get? b = some o → h₁.get? b = some o := fun b o e => hsb₁.extBut b o (nC b o e).1 (Heap.get?_push_of_some _ (hH2 ▸ Heap.get?_push_of_some _ e))
  have hacc : h₁.get? D = some (listOf ([] : List Value).toArray 0) := hsb₁.extBut _ _ hDC (Heap.get?_push_of_some _ (hH2 ▸ hDe ▸ Heap.get?_push_size _ rfl))
  have fresh : ∀ a, D ≤ a → s.heap.get? a = none := fun a ha => by
    cases e : s.heap.get? a with
    | none => rfl
    | some o' => exact absurd (lt_of _ _ e) (Nat.not_lt.mpr ha)
  have hDn := fresh D (Nat.le_refl _)
  have hCn := fresh C (by rw [hC]; exact Nat.le_succ _)
  have hDσ := S.none_of G.ok hDn
  have hCσ := S.none_of G.ok hCn
  have hDb := S.base_none hDn
  have hCb := S.base_none hCn
  obtain ⟨eC, eD⟩ := nC _ _ hen
  obtain ⟨iC, iD⟩ := nC _ _ hite.choose_spec.1
  have fv : ∀ (i : Nat) (n : PySem.Str) (l : Loc), vars[i]? = some (n, l) → l.adr ≠ C ∧ l.adr ≠ D := fun i n l e => by
    obtain ⟨o, eo⟩ := F.there e
    exact nC _ _ eo
  have eo1 := eo.comp (scope := scope) (x := x) co.co.kind (C := C) fun i n l e => (fv i n l e).1
  have eo' : EnvOk (compEnvC scope (closOf env.cells scope.names []) C env) (compCE2 scope.names ce x y) (vars2 vars x y C) := eo1.more (k := vars.length) rfl (snoc_last rfl) fun i n l e z => by
    rcases snoc_get e with w | ⟨_, w⟩
    · exact absurd z (fv i n l w).1
    · cases w; exact co.ne
  have hvC : ∀ (i : Nat) (n : PySem.Str) (l : Loc), (vars2 vars x y C)[i]? = some (n, l) → l.adr ≠ D ∧ (l.adr ≠ e ∧ l.adr ≠ it) ∧ κ.base.get? l.adr = none := by
    intro i n l z
    rcases snoc_get z with z | ⟨_, z⟩
    · rcases snoc_get z with z | ⟨_, z⟩
      · exact ⟨(fv i n l z).2, hIv i n l z, hb i n l z⟩
      · cases z; exact ⟨hDC.symm, ⟨eC.symm, iC.symm⟩, hCb⟩
    · cases z; exact ⟨hDC.symm, ⟨eC.symm, iC.symm⟩, hCb⟩
  have vx : (vars2 vars x y C)[vars.length]? = some (x, .loc C) := snoc_old (snoc_last rfl)
  have vy : (vars2 vars x y C)[vars.length + 1]? = some (y, .loc C) := snoc_last (by simp)
  have hW : ∀ b ∈ [e, it], b = e ∨ b = it := fun b hb => by simpa using hb
  have hnW : ∀ b, b ≠ e → b ≠ it → b ∉ [e, it] := fun b h1 h2 hb => by rcases hW b hb with z | z; exact h1 z; exact h2 z
  have loop : ∀ tk, codeAny (model κ.prog κ.w) A (.compLoop (.ListComp elt [⟨.Tuple [.Name x px, .Name y py] tn tp, iter, [], 0⟩] scope pos) 0 (.ref e) (.ref D) (compEnvC scope (closOf env.cells scope.names []) C env)) (RR (.ref D) C) { s with heap := h₁, toks := tk } := by
    intro tk
    refine LCp.codeAny_compLoop_pair (fun k s' => ∃ i, k = xs.length + 1 - i ∧ ∃ σ' us n acc ε', Inv κ Γ (vars2 vars x y C) pe vars.length e it a D C (.list m xs) q xs σ s i σ' s' us n acc ε') ?_ (xs.length + 1)
      ⟨0, by omega, σ, [], 0, [], (ε ++ [none]) ++ [none], ⟨Nat.zero_le _, Way.of (Fut.same fun b o _ e => old b o e), S.aside G.ok fun b o e _ => old b o e, hσe, hσi, hDσ, hCσ, hacc, .nil, Nat.zero_le _, ⟨_, old _ _ hen⟩, hite.at fun o e => old _ _ e, frame_comp (frame_comp F old hCσ hns₁) (fun _ _ e => e) hCσ hns₁, hq⟩⟩
    rintro k s' ⟨i, rfl, σ', us, n, acc, ε', V⟩
    have lookA : look Γ σ' a = some (.list m xs) := by
      have g1 := V.go
      cases z : xs.drop i with
      | nil => rw [z] at g1; exact g1.1
      | cons y ys => rw [z] at g1; exact g1.1
    obtain ⟨vs, nn, o1, hvs, _⟩ := look_sits G V.st lookA
    have hl : s'.heap.IsList a vs.toArray := ⟨_, o1, rfl, _, rfl⟩
    obtain ⟨old', en⟩ := V.en
    have live : ∀ b ∈ [e, it], ∃ o, s'.heap.get? b = some o := fun b hb => by
      rcases hW b hb with z | z <;> rw [z]
      · exact ⟨_, en⟩
      · exact ⟨_, V.ite.choose_spec.1⟩
    -- aside of the two
    have step : ∀ h' tk', (∀ b o, b ≠ e → b ≠ it → s'.heap.get? b = some o → h'.get? b = some o) → Way [e, it] σ s σ' { s' with heap := h', toks := tk' } ∧ St κ σ' { s' with heap := h', toks := tk' } ∧ FrameSt (vars2 vars x y C) ε' σ' h' := by
      intro h' tk' k
      have y1 : Fut [e, it] σ' s'.heap σ' h' := Fut.same fun b o hw e => k b o (fun z => hw (by simp [z])) (fun z => hw (by simp [z])) e
      refine ⟨V.way.transW (Way.of y1) live, V.st.aside G.ok fun b o e hσ => k b o (fun z => ?_) (fun z => ?_) e, V.fr.keepW y1 fun i n l z => hnW _ (hvC i n l z).2.1.1 (hvC i n l z).2.1.2⟩
      · subst z; rcases hσ with z | z; exact z V.se; exact z hbe
      · subst z; rcases hσ with z | z; exact z V.si; exact z hbi
    cases hy : xs[i]? with
    | none =>
      have hv : vs.toArray[i]? = none := by
        have := List.getElem?_eq_none_iff.mp hy
        simp [hvs.length]; exact this
      refine wpAny_pyNext_enum_end r.handled en V.ite hl hv fun h' k => ?_
      have g1 := V.go
      rw [List.drop_eq_nil_of_le (List.getElem?_eq_none_iff.mp hy)] at g1
      obtain ⟨w2, S2, F2⟩ := step h' s'.toks fun b o _ hb e => k b o hb e
      obtain ⟨mm, hn, _⟩ := F2.loc vars.length x C vx
      exact hRR D C σ' _ us n acc mm hDn hCn hDC w2 S2 V.sd V.sc (k _ _ iD.symm V.hd) V.vals (by have := V.len; have := V.le; omega) hn g1.2
    | some yv =>
      obtain ⟨v, hv, iv⟩ := get_back hvs hy
      have hlt : i < xs.length := (List.getElem?_eq_some_iff.mp hy).1
      have hdrop : xs.drop i = yv :: xs.drop (i + 1) := by
        rw [List.drop_eq_getElem_cons hlt]
        rw [List.getElem?_eq_getElem hlt] at hy
        cases hy; rfl
      have g1 := V.go
      rw [hdrop] at g1
      obtain ⟨_, g1⟩ := g1
      refine wpAny_pyNext_enum_item en V.ite hl hv hne fun h2 eo2 it2 tu2 sz2 k2 => ?_
      refine wpAny_letOwnedTupleGo_enum eo2 fun h3 en3 sb3 => ?_
      replace sb3 : Heap.SameBut e h2 h3 := sb3
      have tE : s'.heap.objs.size ≠ e := Nat.ne_of_gt (Heap.lt_size en)
      have tu3 : h3.IsTuple s'.heap.objs.size #[.int i s'.toks, v] := ⟨_, sb3.extBut _ _ tE tu2, rfl, _, rfl⟩
      have it3 : h3.IsListIter it a (i + 1) := it2.at fun o z => sb3.extBut _ _ hne.symm z
      have k3 : ∀ b o, b ≠ e → b ≠ it → s'.heap.get? b = some o → h3.get? b = some o := fun b o z1 z2 z => sb3.extBut b o z1 (k2 b o z1 z2 z)
      refine wpAny_assign_Tuple r.handled tu3 rfl rfl fun h4 x4 => ?_
      have k4 : ∀ b o, h3.get? b = some o → h4.get? b = some o := fun b o z => x4 b o (Nat.ne_of_lt (Heap.lt_size z)) z
      obtain ⟨w4, S4, F4⟩ := step h4 (s'.toks + 1) fun b o z1 z2 z => k4 b o (k3 b o z1 z2 z)
      -- the two names
      show wpAny _ _ (holding _ (assign (.Name x px) _ _) >>= fun _ => assignInOrder ((assignEach [.Name y py] _).map (·.2)) [v]) _ _ _
      refine wpAny_bind (wpAny_holding (wpAny_assign_Name (store_var (s := { s' with heap := h4, toks := s'.toks + 1 }) (W := [C]) G.ok eo' S4 F4 co.vx (.int _ _) (fun i n l e => (hvC i n l e).2.2) (fun mm l z => ?_) fun h5 tk5 S5 u5 F5 => ?_)))
      · rw [← eo.len, vx] at z; cases z; exact List.mem_singleton.mpr rfl
      show wpAny _ _ (holding _ (assign (.Name y py) _ _) >>= fun _ => assignInOrder [] []) _ _ _
      refine wpAny_bind (wpAny_holding (wpAny_assign_Name (store_var (s := { s' with heap := h5, toks := tk5 }) (W := [C]) G.ok eo' S5 F5 co.vy iv (fun i n l e => (hvC i n l e).2.2) (fun mm l z => ?_) fun h6 tk6 S6 u6 F6 => ?_)))
      · rw [← eo.len, vy] at z; cases z; exact List.mem_singleton.mpr rfl
      refine wpAny_pure ?_
      have k6 : ∀ b o, h4.get? b = some o → σ' b = none → b ≠ C → h6.get? b = some o := fun b o z zs zc => u6.keep b o (u5.keep b o z zs (by simpa using zc)) zs (by simpa using zc)
      have u46 : Fut [C] σ' h4 σ' h6 := u5.trans u6 fun b hb o z => by
        have : b = C := by simpa using hb
        subst this; obtain ⟨o', z'⟩ := F5.there vx; exact ⟨o', z'⟩
      have hCs : ∀ b ∈ [C], b ∈ [e, it] ∨ s.heap.get? b = none := fun b hb => by
        have : b = C := by simpa using hb
        subst this; exact .inr hCn
      have en6 : IsEnum h6 e it ((i + 1 : Nat) : Int) v := k6 _ _ (k4 _ _ (by exact_mod_cast en3)) V.se eC
      have it6 : h6.IsListIter it a (i + 1) := it3.at fun o z => k6 _ _ (k4 _ _ z) V.si iC
      have hd6 : h6.get? D = some (listOf us.toArray n) := k6 _ _ (k4 _ _ (k3 _ _ eD.symm iD.symm V.hd)) V.sd hDC
      obtain ⟨⟨hs4, tks4, es4⟩, uu4⟩ := w4
      have es' : s' = { s with heap := s'.heap, toks := s'.toks } := by
        obtain ⟨⟨hh, tt, ee⟩, _⟩ := V.way
        rw [ee]
      have u6' : Fut [e, it] σ s.heap σ' h6 := uu4.comp u46 hCs fun b hb => by
        rcases hW b hb with z | z <;> rw [z]
        · exact ⟨_, k4 _ _ en3⟩
        · exact ⟨_, k4 _ _ it3.choose_spec.1⟩
      rw [← eo.len] at F6
      have w6 : Way [e, it] σ s σ' { s' with heap := h6, toks := tk6 } := ⟨⟨h6, tk6, by rw [es']⟩, u6'⟩
      -- the element
      refine wpAny_mono (helt C hCb eo' A _ σ' _ _ r S6 F6 g1) (fun ev s7 zz => ?_) fun _ _ z => z.elim
      obtain ⟨σ7, w7, S7, z, iz, g7⟩ := zz
      have u7 := w7.fut
      have hd7 := u7.keep _ _ hd6 V.sd (fun h => nomatch h)
      have hD7 := u7.still hd6 V.sd
      have F7 := F6.keep u7
      have en7 := u7.keep _ _ en6 V.se (fun h => nomatch h)
      have he7 := u7.still en6 V.se
      have it7 : s7.heap.IsListIter it a (i + 1) := it6.at fun o z => u7.keep _ _ z V.si (fun h => nomatch h)
      have hi7 := u7.still it6.choose_spec.1 V.si
      obtain ⟨oC, eoC⟩ := F6.there vx
      have hC7 := u7.still eoC V.sc
      have w7' : Way [e, it] σ s σ7 s7 := w6.transW (w7.weak (W := [e, it])) fun b hb => by
        rcases hW b hb with z | z <;> rw [z]
        · exact ⟨_, en6⟩
        · exact ⟨_, it6.choose_spec.1⟩
      refine wpAny_list_append_plain ⟨n, hd7⟩ (fun h8 hp8 hs8 => ?_) (by rw [List.size_toArray, V.vals.length, sizeLine_eq]; have := V.len; omega)
      obtain ⟨n8, hp8⟩ := hp8
      rw [List.push_toArray] at hp8
      have y8 : Fut [D] σ7 s7.heap σ7 h8 := Fut.same fun b o hw e => hs8.extBut b o (by simpa using hw) e
      obtain ⟨⟨hh7, tt7, ee7⟩, uu7⟩ := w7'
      refine ⟨xs.length + 1 - (i + 1), by omega, i + 1, rfl, σ7, us ++ [ev], n8, acc ++ [z], _, ⟨hlt, ⟨⟨h8, s7.toks, by rw [ee7]⟩, uu7.comp y8 (fun b hb => ?_) fun b hb => ?_⟩, S7.aside G.ok (tk := s7.toks) fun b o e hσ => hs8.extBut b o (fun z => ?_) e, he7, hi7, hD7, hC7, hp8, V.vals.append (.cons iz .nil), by rw [List.length_append]; have := V.len; show _ + 1 ≤ _; omega,
        ⟨_, hs8.extBut _ _ eD en7⟩, it7.at fun o z => hs8.extBut _ _ iD z, F7.keepW y8 fun i n l e => by have := (hvC i n l e).1; simpa using this, g7⟩⟩
      · have : b = D := by simpa using hb
        subst this; exact .inr hDn
      · rcases hW b hb with z | z <;> rw [z]
        · exact ⟨_, en7⟩
        · exact ⟨_, it7.choose_spec.1⟩
      · subst z; rcases hσ with z | z; exact z hD7; exact z hDb
  refine codeAny_compStart_list (loop _) ?_
  exact wpAny_pyIter_enum (old _ _ hen) (loop _)
end Mine
end
section
open PySem PySem.W PyProof.Rows PySem.SeqAt
set_option Elab.async false
set_option maxRecDepth 100000
namespace Mine
variable {κ : Kx} {Γ : Gx} {meths : List (PySem.Str × Addr)} {d : Nat} {env : Env} {vars : List (PySem.Str × Loc)}
theorem boot_enum : bootBuiltins "enumerate" = some (.type "enumerate") := by decide +kernel
theorem enum_eval {ce : CEnv} (G : GOk κ Γ meths d) (eo : EnvOk env ce vars) {p pos : Pos} {e : PySem.Expr} {pe : PE} (hl : ce.names.lookup ("enumerate" : PySem.Str) = some .globalImplicit) (hg : nsIn κ.K mainGlobals "enumerate" = some none) (hst : notStar e = true) (he : SE κ d env vars e (wpE Γ pe))
    {A : Around} {s : Shared} {σ : Sto} {ε : Env0} {q : Post} {Q : Value → Shared → Prop} (r : Room A d) (S : St κ σ s) (F : FrameSt vars ε σ s.heap) (hq : wpE Γ pe q ε σ)
    (h : ∀ v x σ1 s1, Way [] σ s σ1 s1 → St κ σ1 s1 → Is v x → q x σ1 → wpAny (model κ.prog κ.w) A (call (.type "enumerate") [v]) Q noE s1) :
    wpAny (model κ.prog κ.w) A (eval (.Call (.Name "enumerate" p) [e] [] pos) env) Q noE s := by
  have T := G.ok.T.keeps (fun b o e => S.base b o e)
  refine Call_args (Calls.Name_function_global eo.kind (by unfold Env.kindOf; rw [eo.names]; exact hl) (Calls.loadGlobal_builtin (mg := κ.mg) (mb := κ.mb) (by rw [eo.globals]; exact T.g) (mg_none_of (G.X S) T.g hg) (by rw [eo.builtins]; exact T.b) ((T.builtins _ (by decide)).trans boot_enum) ?_) (by decide))
  have hst' : [e].all notStar = true := by simp [hst]
  have hs := ses_cons (star_cons (es := []) hst env) he (ses_nil (κ := κ) (Γ := Γ) (d := d) (env := env) (vars := vars))
  refine PyProof.Rows.callWith_type (star_all hst' env pos) (args_go (star_all hst' env pos) (wpAny_mono (hs A s σ ε (fun xs σ' => match xs with | [x] => q x σ' | _ => False) pos r S F hq) (fun vs s1 zz => ?_) fun _ _ z => z))
  obtain ⟨σ1, w1, S1, xs, hv, _, q1⟩ := zz
  cases hv with
  | nil => exact q1.elim
  | cons iv hr =>
    cases hr with
    | nil => exact h _ _ σ1 s1 w1 S1 iv q1
    | cons _ _ => exact q1.elim
theorem ss_compE {ce : CEnv} (G : GOk κ Γ meths d) (fo : Fo κ env ce vars) {elt arg : PySem.Expr} {x y : PySem.Str} {px py tp pos p cp : Pos} {tn : Nat} {scope : Scope} {pe pi : PE} {t : Nat} {n : PySem.Str} {np spos : Pos} {j : Nat} (hc : enumOk scope ce x y = true) (ht : ce.vs.length = t) (hj : ce.var n = some j)
    (hsw : swapsWith (.ListComp elt [⟨.Tuple [.Name x px, .Name y py] tn tp, .Call (.Name "enumerate" p) [arg] [] cp, [], 0⟩] scope pos) (some (.Name n np)) spos.line env = pure true) (hfold : ∀ v, foldedSetIterable (.Call (.Name "enumerate" p) [arg] [] cp) env v = pure v)
    (hl : ce.names.lookup ("enumerate" : PySem.Str) = some .globalImplicit) (hg : nsIn κ.K mainGlobals "enumerate" = some none) (hst : notStar arg = true) (hit : SE κ d env vars arg (wpE Γ pi))
    (helt : ∀ C, Fo κ (compEnvC scope (closOf env.cells scope.names []) C env) (compCE2 scope.names ce x y) (vars2 vars x y C) → SE κ d (compEnvC scope (closOf env.cells scope.names []) C env) (vars2 vars x y C) elt (wpE Γ pe)) :
    SS κ d env vars (.Assign [.Name n np] (.ListComp elt [⟨.Tuple [.Name x px, .Name y py] tn tp, .Call (.Name "enumerate" p) [arg] [] cp, [], 0⟩] scope pos) spos) (wpS Γ (.asg (.var j) (.compE pe t pi))) := by
  rintro A s σ ε q r S F hq
  have co := enumOk_of hc
  subst ht
  show wpAny _ _ _ _ _ _
  have hq' : wpE Γ (.compE pe ce.vs.length pi) (fun x σ' => wpT Γ (.var j) x (q .next) ε σ') ε σ := hq
  rw [← fo.eo.len] at hq'
  rw [exec_Assign_Name_used _ _ _ _ hsw]
  refine wpAny_bind (wpAny_standAt (wpAny_bind ?_))
  show wpAny _ A (do let _ ← comprehension (.ListComp elt [⟨.Tuple [.Name x px, .Name y py] tn tp, .Call (.Name "enumerate" p) [arg] [] cp, [], 0⟩] scope pos) scope env _ (newList []) false (eval (.Call (.Name "enumerate" p) [arg] [] cp) env) (some (assign (.Name n np) env))) _ _ s
  refine wpAny_bind (wpAny_mono (wpAny_comprehension_free (use := some (assign (.Name n np) env)) (Q := fun _ s' => Ends κ vars σ s q .next s') rfl hfold (co.co.closure fo.eo) co.co.kind co.co.names
    (enum_eval G fo.eo hl hg hst hit r S F hq' fun v vx σ1 s1 w1 S1 iv zz => ?_)) (fun _ s' hq => wpAny_pure (wpAny_pure hq)) fun _ _ e => e)
  obtain ⟨a, m, xs, e1, e2, hz, g⟩ := zz
  subst e1
  cases iv
  obtain ⟨vs, nn, o1, hvs, _⟩ := look_sits G S1 e2
  refine call_enumerate_list (l := a) (items := vs.toArray) ⟨_, o1, rfl, _, rfl⟩ fun h' en hi sz keep => ?_
  have eN : s1.heap.get? (s1.heap.objs.size + 1) = none := by
    cases z : s1.heap.get? (s1.heap.objs.size + 1) with
    | none => rfl
    | some o => have : s1.heap.objs.size + 1 < s1.heap.objs.size := Heap.lt_size z; omega
  have iN := fresh_none s1.heap
  have hne : s1.heap.objs.size + 1 ≠ s1.heap.objs.size := Nat.succ_ne_self _
  generalize s1.heap.objs.size + 1 = e at *
  generalize s1.heap.objs.size = it at *
  have eσ := S1.none_of G.ok eN
  have iσ := S1.none_of G.ok iN
  have F1 := F.keep w1.fut
  have y0 : Fut [] σ1 s1.heap σ1 h' := Fut.same fun b o _ z => keep b o z
  have w0 : Way [] σ1 s1 σ1 { s1 with heap := h' } := Way.of' y0
  have S0 : St κ σ1 { s1 with heap := h' } := S1.aside G.ok (tk := s1.toks) fun b o z _ => keep b o z
  refine wpAny_pyIter_enum en ?_
  refine enum_core G fo.eo co fo.hb (RR := fun acc C => compPost (model κ.prog κ.w) A noE (some (assign (.Name n np) env)) (fun _ s' => Ends κ vars σ s q .next s') acc C) r S0 (F1.keep y0) hz en hi hne eσ iσ (fun i n l z => ?_) (S1.base_none eN) (S1.base_none iN) g (fun C hC ho => helt C ⟨ho, fun i n l z => ?_⟩) ?_
  · obtain ⟨o, eo⟩ := F1.there z
    exact ⟨fun w => (by rw [w, eN] at eo; cases eo), fun w => (by rw [w, iN] at eo; cases eo)⟩
  · rcases snoc_get z with z | ⟨_, z⟩
    · rcases snoc_get z with z | ⟨_, z⟩
      · exact fo.hb i n l z
      · cases z; exact hC
    · cases z; exact hC
  · intro D C σ' s' us mm ys mC hD hC hDC w2 S2 hDσ hCσ hd hv hl hn g2
    have down : ∀ b, h'.get? b = none → s1.heap.get? b = none := fun b hb => by
      cases q : s1.heap.get? b with
      | none => rfl
      | some o => rw [keep _ _ q] at hb; cases hb
    have hD1 := down D hD
    have hC1 := down C hC
    obtain ⟨⟨h2, tk2, es⟩, u2⟩ := w2
    subst es
    dsimp only at S2 hd hn u2
    have u3 : Fut [] σ1 s1.heap σ' h2 := y0.comp u2 (fun b hb => by
      have : b = e ∨ b = it := by simpa using hb
      rcases this with z | z <;> rw [z]
      · exact .inr eN
      · exact .inr iN) fun b hb => nomatch hb
    obtain ⟨a1, a2, a3⟩ := after_adopt G (tk := tk2) (ao := .list true ys) (h' := h2) S1 hD1 (Way.of u3) S2 hDσ (fun b o _ e => e) ⟨us, mm, hd, hv, fun _ => S1.base_none hD1, by omega⟩
    have F2 := F1.keep a2.fut
    have hCσ2 : (σ'.set D (.list true ys)) C = none := by rw [Sto.set_ne _ _ hDC.symm]; exact hCσ
    have hCW : C ∉ adrs vars := fun h => by obtain ⟨o, eo⟩ := F1.live _ h; rw [hC1] at eo; cases eo
    refine wpAny_mono (tt_var G fo hj A _ _ ε (q .next) (.ref D) (.ref D) r a1 F2 (.ref D) (g2 D a3)) (fun _ s3 zz => ?_) fun _ _ z => z
    obtain ⟨σ3, ε3, w3, S3, F3, q3⟩ := zz
    have hn3 : s3.heap.Ns C mC := hn.at' fun o e => w3.fut.keep _ _ e hCσ2 hCW
    refine ⟨mC, hn3, fun h4 hs4 => ?_⟩
    obtain ⟨oC, _, _, eC, _⟩ := id hn
    have hC3 := w3.fut.still eC hCσ2
    have y4 : Fut [C] σ3 s3.heap σ3 h4 := Fut.same fun b o hw e => hs4.extBut b o (by simpa using hw) e
    have wa : Way (adrs vars) σ1 s1 σ3 s3 := (a2.weak (W := adrs vars)).transW w3 F2.live
    obtain ⟨⟨h3, tk3, es3⟩, u5⟩ := wa
    subst es3
    dsimp only at S3 F3 hs4 y4 u5
    refine ⟨.next, .next, σ3, ε3, w1.weak.transW (Way.of (u5.comp y4 (fun b hb => ?_) F3.live)) F1.live, S3.aside G.ok fun b o e hσ => hs4.extBut b o (fun z => ?_) e, F3.keepW y4 fun i n l e => ?_, q3⟩
    · have : b = C := by simpa using hb
      subst this; exact .inr hC1
    · subst z; rcases hσ with z | z; exact z hC3; exact z (S1.base_none hC1)
    · intro hm
      have : l.adr = C := by simpa using hm
      exact hCW (this ▸ mem_adrs e)
end Mine
end
section
open PySem PySem.W PyProof.Rows PySem.SeqAt
set_option Elab.async false
set_option maxRecDepth 100000
namespace Mine
variable {κ : Kx} {Γ : Gx} {meths : List (PySem.Str × Addr)} {d : Nat} {env : Env} {vars : List (PySem.Str × Loc)}
theorem bindL_miss {k : PySem.Str → Option NameKind} {n : PySem.Str} : ∀ {binds : List (PySem.Str × Value)} {m : PySem.Str → Option Value}, n ∉ binds.map (·.1) → bindL k binds m n = m n
  | [], _, _ => rfl
  | (a, v) :: r, m, h => by
    simp only [List.map_cons, List.mem_cons, not_or] at h
    unfold bindL
    rw [bindL_miss h.2]
    split
    · show (if n = a then some v else m n) = m n
      rw [if_neg h.1]
    · rfl
theorem bindL_get {k : PySem.Str → Option NameKind} {n : PySem.Str} {v : Value} (hk : k n = some .local) : ∀ {binds : List (PySem.Str × Value)} {m : PySem.Str → Option Value}, (binds.map (·.1)).Nodup → (n, v) ∈ binds → bindL k binds m n = some v
  | [], _, _, h => nomatch h
  | (a, u) :: r, m, hn, h => by
    have hn' := List.nodup_cons.mp hn
    unfold bindL
    rcases List.mem_cons.mp h with e | h
    · cases e
      rw [bindL_miss hn'.1, if_pos hk]
      show (if n = n then some v else m n) = _
      rw [if_pos rfl]
    · exact bindL_get hk hn'.2 h
theorem bindC_miss {k : PySem.Str → Option NameKind} {n : PySem.Str} : ∀ {binds : List (PySem.Str × Value)} {m : PySem.Str → Option Value}, n ∉ binds.map (·.1) → bindC k binds m n = m n
  | [], _, _ => rfl
  | (a, v) :: r, m, h => by
    simp only [List.map_cons, List.mem_cons, not_or] at h
    unfold bindC
    rw [bindC_miss h.2]
    split
    · rfl
    · show (if n = a then some v else m n) = m n
      rw [if_neg h.1]
theorem bindC_get {k : PySem.Str → Option NameKind} {n : PySem.Str} {v : Value} (hk : k n = some .cell) : ∀ {binds : List (PySem.Str × Value)} {m : PySem.Str → Option Value}, (binds.map (·.1)).Nodup → (n, v) ∈ binds → bindC k binds m n = some v
  | [], _, _, h => nomatch h
  | (a, u) :: r, m, hn, h => by
    have hn' := List.nodup_cons.mp hn
    unfold bindC
    rcases List.mem_cons.mp h with e | h
    · cases e
      rw [bindC_miss hn'.1, if_neg (by rw [hk]; exact fun z => nomatch z)]
      show (if n = n then some v else m n) = _
      rw [if_pos rfl]
    · exact bindC_get hk hn'.2 h
noncomputable def frameOk (names : List (PySem.Str × NameKind)) (vs : List (PySem.Str × Kind)) : Bool :=
  decide (vs.map (·.1)).Nodup && vs.all fun p => match p.2 with
    | .loc => names.lookup p.1 == some .local
    | .cell => names.lookup p.1 == some .cell
    | .hid => false
noncomputable def frameVars (L : Addr) (cells : List (PySem.Str × Addr)) (vs : List (PySem.Str × Kind)) : List (PySem.Str × Loc) :=
  vs.map fun p => (p.1, match p.2 with | .cell => .cell ((cells.lookup p.1).getD 0) | _ => .loc L)
theorem frame_get {L : Addr} {cells : List (PySem.Str × Addr)} {vs : List (PySem.Str × Kind)} {i : Nat} {n : PySem.Str} {l : Loc} (e : (frameVars L cells vs)[i]? = some (n, l)) :
    ∃ k, vs[i]? = some (n, k) ∧ l = match k with | .cell => Loc.cell ((cells.lookup n).getD 0) | _ => .loc L := by
  unfold frameVars at e
  rw [List.getElem?_map] at e
  obtain ⟨p, hp, e⟩ := Option.map_eq_some_iff.mp e
  cases e
  exact ⟨p.2, hp, rfl⟩
theorem idx_inj {vs : List (PySem.Str × Kind)} (h : (vs.map (·.1)).Nodup) {i j : Nat} {n : PySem.Str} {k k' : Kind} (e : vs[i]? = some (n, k)) (e' : vs[j]? = some (n, k')) : i = j := by
  have a : (vs.map (·.1))[i]? = some n := by rw [List.getElem?_map, e]; rfl
  have b : (vs.map (·.1))[j]? = some n := by rw [List.getElem?_map, e']; rfl
  exact (List.getElem?_inj (List.getElem?_eq_some_iff.mp a).1 h).mp (a.trans b.symm)
theorem enter (G : GOk κ Γ meths d) {σ : Sto} {s : Shared} {A : Around} {f : Addr} {o : Obj} {fd : FuncData} {body : List PySem.Stmt} {vs : List (PySem.Str × Kind)} {args : List Value} {binds : List (PySem.Str × Value)} {xs : List V} {pb : PSs} {q : Post}
    (r : Room A (d + 1)) (S : St κ σ s) (ho : κ.K.lookup f = some o) (hdata : o.data = .func fd) (hcd : codeIn κ.K fd.code fd.qualname = true) (hbody : fd.body = .stmts body) (hclo : fd.closure = []) (hgl : fd.globals = mainGlobals) (hbu : fd.builtins = builtinsNs)
    (hbind : BindsTo s fd ⟨args, []⟩ binds) (hnames : binds.map (·.1) = (vs.map (·.1)).take binds.length) (hv : Vals (binds.map (·.2)) xs) (hok : frameOk fd.scope.names vs = true)
    (hco : fd.scope.isCoroutine = false) (hgen : fd.scope.isGenerator = false) (hk : fd.scope.kind = .function)
    (h : ∀ L vars, Fo κ (callEnvC fd L f) ⟨fd.scope.names, vs⟩ vars → SSs κ d (callEnvC fd L f) vars body (wpSs Γ pb))
    (hw : wpSs Γ pb (fun fl _ σ' => match fl with | .ret v => q v σ' | .next => q .none σ' | _ => False) (xs.map some ++ List.replicate (vs.length - xs.length) none) σ) :
    codeAny (model κ.prog κ.w) A (.call (.ref f) ⟨args, []⟩) (fun r s' => ∃ v, r = .ok (.ret v) ∧ After κ [] σ s (fun v σ' => ∃ x, Is v x ∧ q x σ') v s') s := by
  have X := G.X S
  have T := G.ok.T.keeps (fun b o e => S.base b o e)
  unfold frameOk at hok
  obtain ⟨hnd, hkinds⟩ := Bool.and_eq_true_iff.mp hok
  have hnd := of_decide_eq_true hnd
  have kindAt : ∀ {i : Nat} {n : PySem.Str} {k : Kind}, vs[i]? = some (n, k) → (k = .loc ∧ fd.scope.names.lookup n = some .local) ∨ (k = .cell ∧ fd.scope.names.lookup n = some .cell) := by
    intro i n k e
    have := List.all_eq_true.mp hkinds _ (List.mem_of_getElem? e)
    cases k with
    | loc => exact .inl ⟨rfl, by simpa using this⟩
    | cell => exact .inr ⟨rfl, by simpa using this⟩
    | hid => cases this
  have hbn : (binds.map (·.1)).Nodup := by rw [hnames]; exact List.Sublist.nodup (List.take_sublist _ _) hnd
  have hlen : xs.length = binds.length := by rw [← hv.length, List.length_map]
  have hle : binds.length ≤ vs.length := by
    have := congrArg List.length hnames
    rw [List.length_map, List.length_take, List.length_map] at this
    omega
  have bindAt : ∀ {i : Nat} {n : PySem.Str} {k : Kind} {x : V}, vs[i]? = some (n, k) → xs[i]? = some x → ∃ v, (n, v) ∈ binds ∧ Is v x := by
    intro i n k x e ex
    obtain ⟨v, ev, iv⟩ := hv.get ex
    rw [List.getElem?_map] at ev
    obtain ⟨p, hp, rfl⟩ := Option.map_eq_some_iff.mp ev
    refine ⟨p.2, ?_, iv⟩
    have e1 : (binds.map (·.1))[i]? = some p.1 := by rw [List.getElem?_map, hp]; rfl
    rw [hnames, List.getElem?_take, if_pos (List.getElem?_eq_some_iff.mp hp).1, List.getElem?_map, e] at e1
    cases e1
    exact List.mem_of_getElem? hp
  have hkd : (binds.all fun y => fd.scope.names.lookup y.1 == some .local || fd.scope.names.lookup y.1 == some .cell) = true := by
    refine List.all_eq_true.mpr fun y hy => ?_
    have : y.1 ∈ (vs.map (·.1)).take binds.length := by rw [← hnames]; exact List.mem_map_of_mem hy
    obtain ⟨p, hp, e⟩ := List.mem_map.mp (List.mem_of_mem_take this)
    obtain ⟨i, hi⟩ := List.getElem?_of_mem hp
    rw [← e]
    rcases kindAt (i := i) (n := p.1) (k := p.2) hi with ⟨_, z⟩ | ⟨_, z⟩ <;> rw [z] <;> rfl
  refine codeAny_call_function r.limit (X _ _ ho) hdata hco hgen hbody (codeRec_of X hcd) (hbind _ _ _ _ ?_)
  rw [hclo]
  refine wpAny_newFunctionEnv_cells hk (kindsX hkd _) fun env he s₁ x => ?_
  subst he
  refine ⟨T.nolimit.keeps x.toInCall.keep, codeAny_func ?_⟩
  generalize hLe : s.heap.objs.size = L at x ⊢
  have henv : newEnv fd.scope L fd.globals (cellsFrom (L + 1) fd.scope.names []) (fd.qualname ++ ".<locals>.") (some f) fd.code none fd.builtins = callEnvC fd L f := rfl
  rw [henv] at x ⊢
  obtain ⟨⟨⟨h1, tk1, es1⟩, ns, keep, _⟩, cellx, apart, above⟩ := x
  subst es1
  dsimp only at ns keep cellx
  have hns : h1.Ns L (bindL (callEnvC fd L f).kindOf binds fun _ => none) := ns
  have kOf : ∀ n, (callEnvC fd L f).kindOf n = fd.scope.names.lookup n := fun n => rfl
  have freshA : ∀ b, L ≤ b → s.heap.get? b = none := fun b hb => by
    cases q : s.heap.get? b with
    | none => rfl
    | some o => exact absurd (Heap.lt_size q) (by rw [hLe]; exact Nat.not_lt.mpr hb)
  have cellAt : ∀ n, fd.scope.names.lookup n = some .cell → ∃ c, (cellsFrom (L + 1) fd.scope.names []).lookup n = some c ∧ L < c := fun n hn => by
    have := cellsFrom_some (n := L + 1) fd.scope.names [] (x := n) (.inl hn)
    obtain ⟨c, hc⟩ := Option.isSome_iff_exists.mp this
    exact ⟨c, hc, above n c (mem_of_lookup hc)⟩
  let vars := frameVars L (cellsFrom (L + 1) fd.scope.names []) vs
  have varAt : ∀ {i : Nat} {n : PySem.Str} {l : Loc}, vars[i]? = some (n, l) → ∃ k, vs[i]? = some (n, k) ∧ ((k = .loc ∧ fd.scope.names.lookup n = some .local ∧ l = .loc L) ∨ (k = .cell ∧ fd.scope.names.lookup n = some .cell ∧ ∃ c, (cellsFrom (L + 1) fd.scope.names []).lookup n = some c ∧ L < c ∧ l = .cell c)) := by
    intro i n l e
    obtain ⟨k, hk, rfl⟩ := frame_get e
    refine ⟨k, hk, ?_⟩
    rcases kindAt hk with ⟨rfl, hl⟩ | ⟨rfl, hl⟩
    · exact .inl ⟨rfl, hl, rfl⟩
    · obtain ⟨c, hc, hlt⟩ := cellAt n hl
      exact .inr ⟨rfl, hl, c, hc, hlt, by simp [hc]⟩
  have adrL : ∀ {i : Nat} {n : PySem.Str} {l : Loc}, vars[i]? = some (n, l) → L ≤ l.adr := by
    intro i n l e
    obtain ⟨k, _, h⟩ := varAt e
    rcases h with ⟨_, _, rfl⟩ | ⟨_, _, c, _, hlt, rfl⟩
    · exact Nat.le_refl _
    · exact Nat.le_of_lt hlt
  have eo : EnvOk (callEnvC fd L f) ⟨fd.scope.names, vs⟩ vars := by
    refine ⟨hk, hgl, hbu, rfl, by simp [vars, frameVars], fun i j n n' l l' e e' hij hn => ?_, fun i j n n' c l' e e' hij => ?_, fun i n e => ?_, fun i n e => ?_⟩
    · subst hn
      obtain ⟨k, hk, _⟩ := varAt e
      obtain ⟨k', hk', _⟩ := varAt e'
      exact absurd (idx_inj hnd hk hk') hij
    · obtain ⟨k, hk, h⟩ := varAt e
      obtain ⟨k', hk', h'⟩ := varAt e'
      rcases h with ⟨_, _, h⟩ | ⟨_, _, c1, hc1, hlt, h⟩
      · cases h
      · cases h
        rcases h' with ⟨_, _, rfl⟩ | ⟨_, _, c2, hc2, _, rfl⟩
        · exact Nat.ne_of_gt hlt
        · intro ec
          have ec : c = c2 := ec
          subst ec
          have := name_of_addr apart (mem_of_lookup hc1) (mem_of_lookup hc2)
          subst this
          exact hij (idx_inj hnd hk hk')
    · have e : vs[i]? = some (n, Kind.loc) := e
      show (frameVars L _ vs)[i]? = _
      unfold frameVars
      rw [List.getElem?_map, e]; rfl
    · have e : vs[i]? = some (n, Kind.cell) := e
      rcases kindAt e with ⟨h, _⟩ | ⟨_, hl⟩
      · cases h
      · obtain ⟨c, hc, _⟩ := cellAt n hl
        refine ⟨c, ?_, hc⟩
        show (frameVars L _ vs)[i]? = _
        unfold frameVars
        rw [List.getElem?_map, e]
        simp [hc]
  have fo : Fo κ (callEnvC fd L f) ⟨fd.scope.names, vs⟩ vars := ⟨eo, fun i n l e => S.base_none (freshA _ (adrL e))⟩
  have epsAt : ∀ {i : Nat} {x : V}, (xs.map some ++ List.replicate (vs.length - xs.length) none)[i]? = some (some x) → xs[i]? = some x := by
    intro i x e
    by_cases q : i < xs.length
    · rw [List.getElem?_append_left (by rw [List.length_map]; exact q), List.getElem?_map] at e
      obtain ⟨y, hy, e⟩ := Option.map_eq_some_iff.mp e
      cases e; exact hy
    · rw [List.getElem?_append_right (by rw [List.length_map]; omega)] at e
      have := List.mem_of_getElem? e
      rw [List.mem_replicate] at this
      cases this.2
  have F : FrameSt vars (xs.map some ++ List.replicate (vs.length - xs.length) none) σ h1 := by
    refine ⟨by simp [vars, frameVars]; omega, fun i n l e => S.none_of G.ok (freshA _ (adrL e)), fun i n L' e => ?_, fun i n c e => ?_⟩
    · obtain ⟨k, hk, h⟩ := varAt e
      rcases h with ⟨_, hl, h⟩ | ⟨_, _, c1, _, _, h⟩
      · cases h
        refine ⟨_, hns, fun y ey => ?_⟩
        obtain ⟨v, hm, iv⟩ := bindAt hk (epsAt ey)
        exact ⟨v, bindL_get (by rw [kOf]; exact hl) hbn hm, iv⟩
      · cases h
    · obtain ⟨k, hk, h⟩ := varAt e
      rcases h with ⟨_, hl, h⟩ | ⟨_, hl, c1, hc1, _, h⟩
      · cases h
      · cases h
        refine ⟨_, cellx n c hc1, fun y ey => ?_⟩
        obtain ⟨v, hm, iv⟩ := bindAt hk (epsAt ey)
        exact ⟨v, bindC_get (by rw [kOf]; exact hl) hbn hm, iv⟩
  have S1 : St κ σ { s with heap := h1, toks := tk1 } := S.aside G.ok fun b o e _ => keep b o e
  have u0 : Fut [] σ s.heap σ h1 := Fut.same fun b o _ e => keep b o e
  refine wpAny_mono (h L vars fo (A.deeper (callEnvC fd L f)) _ σ _ _ (r.deeper _) S1 F hw) (fun fl s' zz => ?_) fun _ _ z => z.elim
  obtain ⟨g, hg, σ', ε', w, S', F', hq⟩ := zz
  obtain ⟨⟨h2, tk2, es2⟩, u⟩ := w
  subst es2
  have wAll : Way [] σ s σ' { s with heap := h2, toks := tk2 } := Way.of (u0.comp u (fun b hb => by
    obtain ⟨i, n, l, e, rfl⟩ := of_adrs hb
    exact .inr (freshA _ (adrL e))) fun b hb => nomatch hb)
  cases hg with
  | next => exact ⟨.none, rfl, σ', wAll, S', .none, .none, hq⟩
  | brk => exact hq.elim
  | cont => exact hq.elim
  | ret iv => exact ⟨_, rfl, σ', wAll, S', _, iv, hq⟩
end Mine
end
section
open PySem PySem.W PyProof.Rows PySem.SeqAt
set_option Elab.async false
set_option maxRecDepth 100000
namespace Mine
inductive TE where
  | fn (body : PSs) (nv np : Nat) (dflt : List V)
  | cls (init : Addr)
  | taker
noncomputable def Sto.hide (σ : Sto) (F : List Addr) (l : Addr) : Sto := fun b => if b ∈ F then some (.priv l) else σ b
noncomputable def fillA (np : Nat) (dflt xs : List V) : Option (List V) := if xs.length ≤ np ∧ np ≤ xs.length + dflt.length then some (xs ++ dflt.drop (dflt.length - (np - xs.length))) else none
noncomputable def retW (q : Post) : PostF := fun fl _ σ' => match fl with
  | .ret v => q v σ'
  | .next => q .none σ'
  | _ => False
structure Px where
  stat : Addr → Option AO
  cls : Addr
  meth : Nat → Addr
  tab : Addr → Option TE
noncomputable def New0 (P : Px) (σ : Sto) (a : Addr) : Prop := σ a = none ∧ P.stat a = none
noncomputable def fnW (P : Px) : Nat → Addr → List V → Post → Sto → Prop
  | 0 => fun _ _ _ _ => False
  | n + 1 => fun f xs q σ => match P.tab f with
    | some (.fn body nv np dflt) => ∃ ys, fillA np dflt xs = some ys ∧ wpSs ⟨P.stat, P.cls, P.meth, fnW P n⟩ body (retW q) (ys.map some ++ List.replicate (nv - ys.length) none) σ
    | some (.cls init) => ∀ l dx, New0 P σ l → New0 P σ dx → l ≠ dx → fnW P n init (.ref l :: xs) (fun v σ' => v = .none ∧ q (.ref l) σ') ((σ.set dx (.priv l)).set l (.inst P.cls []))
    | some .taker => ∃ a ys, xs = [.ref a] ∧ P.stat a = some (.list false ys) ∧ ∀ l F, New0 P σ l → (∀ b ∈ F, New0 P σ b) → l ∉ F → q (.ref l) ((σ.hide F l).set l (.taker 0))
    | none => False
noncomputable def Px.gx (P : Px) (n : Nat) : Gx := ⟨P.stat, P.cls, P.meth, fnW P n⟩
variable {κ : Kx} {P : Px} {meths : List (PySem.Str × Addr)}
noncomputable def FnOk (κ : Kx) (P : Px) (meths : List (PySem.Str × Addr)) (f : Addr) : Prop :=
  ∀ n, GOk κ (P.gx n) meths n → ∀ xs q A s σ args, fnW P (n + 1) f xs q σ → Room A (n + 1) → St κ σ s → Vals args xs →
    codeAny (model κ.prog κ.w) A (.call (.ref f) ⟨args, []⟩) (fun r s' => ∃ v, r = .ok (.ret v) ∧ After κ [] σ s (fun v σ' => ∃ x, Is v x ∧ q x σ') v s') s
structure Ground0 (κ : Kx) (P : Px) (meths : List (PySem.Str × Addr)) : Prop where
  ok : κ.Ok
  stat : ∀ a o, P.stat a = some o → (∃ ob, κ.base.get? a = some ob) ∧ ∀ σ h, κ.base.StaysIn h → Sits κ σ h a o
  still : ∀ a o, P.stat a = some o → (∃ xs, o = .list false xs) ∨ ∃ xs, o = .tup xs
  cls : clsOk κ.K P.cls κ.names meths = true
  meth : ∀ i p, meths[i]? = some p → P.meth i = p.2
  take : ∀ (a : Addr) (k : Nat) (lim : Int) (t : Tok) (n : Nat) (A : Around) (s : Shared) (σ : Sto) (q : Post), Room A (n + 1) → St κ σ s → σ a = some (.taker k) → k < 400 → 0 < lim → lim ≤ 1000 → (∀ r : Int, 0 ≤ r → r < lim → q (V.int r) (σ.set a (.taker (k + 1)))) →
    Goes κ [] A (call (.ref a) [.int lim t]) σ s (fun v σ' => ∃ x, Is v x ∧ q x σ')
  takeKeep : ∀ h a k F, κ.tk h a k F → ∃ kp, (kp = Keeper.frame ∨ kp = Keeper.machine ∨ kp = Keeper.boundFrame) ∧ Looks (model κ.prog κ.w) h (keeperOf (.ref a)) kp
theorem gok_all (G : Ground0 κ P meths) (h : ∀ f te, P.tab f = some te → FnOk κ P meths f) : ∀ n, GOk κ (P.gx n) meths n
  | 0 => ⟨G.ok, G.stat, G.still, G.cls, G.meth, fun _ _ _ _ _ _ _ h => h.elim, fun h => absurd h (Nat.lt_irrefl _), G.takeKeep⟩
  | n + 1 => by
    refine ⟨G.ok, G.stat, G.still, G.cls, G.meth, fun f xs q σ A s args hf r S hv => ?_, fun _ a k lim t A s σ q r => G.take a k lim t n A s σ q r, G.takeKeep⟩
    have hf : fnW P (n + 1) f xs q σ := hf
    cases e : P.tab f with
    | none => unfold fnW at hf; rw [e] at hf; exact hf.elim
    | some te => exact h f te e n (gok_all G h n) xs q A s σ args hf r S hv
theorem fn_enter {f : Addr} {o : Obj} {fd : FuncData} {body : List PySem.Stmt} {vs : List (PySem.Str × Kind)} {pb : PSs} {np : Nat} {dflt : List V} {dvals : List Value} (ht : P.tab f = some (.fn pb vs.length np dflt))
    (ho : κ.K.lookup f = some o) (hdata : o.data = .func fd) (hcd : codeIn κ.K fd.code fd.qualname = true) (hbody : fd.body = .stmts body) (hclo : fd.closure = []) (hgl : fd.globals = mainGlobals) (hbu : fd.builtins = builtinsNs)
    (hd : Vals dvals dflt) (hnp : np ≤ vs.length)
    (hbind : ∀ s args, κ.K.In s.heap → args.length ≤ np → np ≤ args.length + dvals.length → BindsTo s fd ⟨args, []⟩ (((vs.map (·.1)).take np).zip (args ++ dvals.drop (dvals.length - (np - args.length)))))
    (hok : frameOk fd.scope.names vs = true) (hco : fd.scope.isCoroutine = false) (hgen : fd.scope.isGenerator = false) (hk : fd.scope.kind = .function)
    (h : ∀ n, GOk κ (P.gx n) meths n → ∀ L vars, Fo κ (callEnvC fd L f) ⟨fd.scope.names, vs⟩ vars → SSs κ n (callEnvC fd L f) vars body (wpSs (P.gx n) pb)) : FnOk κ P meths f := by
  intro n G xs q A s σ args hf r S hv
  unfold fnW at hf
  rw [ht] at hf
  obtain ⟨ys, hy, hw⟩ := hf
  unfold fillA at hy
  split at hy
  · rename_i hl
    cases hy
    have hla := hv.length
    have hld := hd.length
    have hdrop : ∀ {vs : List Value} {xs : List V} (_ : Vals vs xs) (n : Nat), Vals (vs.drop n) (xs.drop n) := fun h n => h.drop n
    have hall : Vals (args ++ dvals.drop (dvals.length - (np - args.length))) (xs ++ dflt.drop (dflt.length - (np - xs.length))) := hv.append (by rw [hla, hld]; exact hd.drop _)
    have hlen : (args ++ dvals.drop (dvals.length - (np - args.length))).length = np := by
      rw [List.length_append, List.length_drop]; omega
    have hlen2 : ((vs.map (·.1)).take np).length = np := by rw [List.length_take, List.length_map]; omega
    have hz1 : ((((vs.map (·.1)).take np).zip (args ++ dvals.drop (dvals.length - (np - args.length)))).map (·.1)) = (vs.map (·.1)).take np := List.map_fst_zip (by rw [hlen, hlen2]; exact Nat.le_refl _)
    have hz2 : ((((vs.map (·.1)).take np).zip (args ++ dvals.drop (dvals.length - (np - args.length)))).map (·.2)) = args ++ dvals.drop (dvals.length - (np - args.length)) := List.map_snd_zip (by rw [hlen, hlen2]; exact Nat.le_refl _)
    refine enter G r S ho hdata hcd hbody hclo hgl hbu (hbind s args (G.X S) (by omega) (by omega)) (by rw [hz1, List.length_zip, hlen, hlen2, Nat.min_self]) (by rw [hz2]; exact hall) hok hco hgen hk (h n G) ?_
    exact hw
  · cases hy
theorem cls_enter {C init : Addr} (ht : P.tab C = some (.cls init)) (hC : P.cls = C) (hm : makesIn κ.K C = true) (hi : findIn κ.K (.ref C) "__init__" = some (some (.ref init))) (hf : typeIn κ.K (.ref init) = some (.type "function")) : FnOk κ P meths C := by
  intro n G xs q A s σ args hw r S hv
  unfold fnW at hw
  rw [ht] at hw
  have X := G.X S
  obtain ⟨h0, g, d, t, os⟩ := s
  have hdx := fresh_none h0
  have hx : h0.get? (h0.objs.size + 1) = none := by
    cases q : h0.get? (h0.objs.size + 1) with
    | none => rfl
    | some o => exact absurd (Nat.lt_trans (Nat.lt_succ_self _) (Heap.lt_size q)) (Nat.lt_irrefl _)
  have ne : h0.objs.size + 1 ≠ h0.objs.size := Nat.succ_ne_self _
  have n1 := new_of G S hx
  have n2 := new_of G S hdx
  have hw1 := hw (h0.objs.size + 1) h0.objs.size n1 n2 ne
  refine make_core (makes_of X hm) (looks_findIn X hi) (fun self => bind_fn X self hf) (.inl rfl) ?_
  have k1 : ∀ b o, h0.get? b = some o → ((h0.push emptyDict).push (instObj C h0.objs.size)).get? b = some o := fun b o e => Heap.get?_push_of_some _ (Heap.get?_push_of_some _ e)
  have e1 : ((h0.push emptyDict).push (instObj C h0.objs.size)).get? h0.objs.size = some emptyDict := Heap.get?_push_of_some _ (Heap.get?_push_size _ rfl)
  have e2 : ((h0.push emptyDict).push (instObj C h0.objs.size)).get? (h0.objs.size + 1) = some (instObj C h0.objs.size) := by
    have := Heap.get?_push_size (h0.push emptyDict) (o := instObj C h0.objs.size) rfl
    rw [Heap.size_push] at this
    exact this
  have S0 : St κ (σ.set h0.objs.size (.priv (h0.objs.size + 1))) ⟨(h0.push emptyDict).push (instObj C h0.objs.size), g, d, t, os⟩ := by
    refine (S.aside G.ok (h' := (h0.push emptyDict).push (instObj C h0.objs.size)) (tk := t) fun b o e _ => k1 b o e).adopt G.ok n2.1 ⟨_, e1⟩
  have hs : (σ.set h0.objs.size (.priv (h0.objs.size + 1))) (h0.objs.size + 1) = none := by rw [Sto.set_ne _ _ ne]; exact n1.1
  have S1 := S0.adopt G.ok hs (ao := .inst C []) ⟨h0.objs.size, [], 0, e2, e1, .nil, by rw [Sto.set_ne _ _ ne.symm, Sto.set_self], S.base_none hdx⟩
  have u0 : Fut [] σ h0 ((σ.set h0.objs.size (.priv (h0.objs.size + 1))).set (h0.objs.size + 1) (.inst C [])) ((h0.push emptyDict).push (instObj C h0.objs.size)) := by
    refine ⟨fun b o e _ _ => k1 b o e, fun a ha => ?_⟩
    by_cases z : a = h0.objs.size + 1
    · subst z; exact .inr hx
    · rw [Sto.set_ne _ _ z] at ha
      by_cases z' : a = h0.objs.size
      · subst z'; exact .inr hdx
      · rw [Sto.set_ne _ _ z'] at ha; exact .inl ha
  have r' : Room (A.under (.builtin "type.__call__" ⟨.ref C :: args, []⟩)) n := by
    have r1 := r.depth
    have r2 := r.units
    have w1 : (Code.builtin "type.__call__" ⟨.ref C :: args, []⟩).weight ≤ 1 := Nat.le_of_eq rfl
    have w2 : (Code.builtin "type.__call__" ⟨.ref C :: args, []⟩).cUnits ≤ 10 := show (_ : Nat) ≤ 10 from Nat.le_trans (Nat.le_of_eq (show _ = 1 from rfl)) (by decide)
    exact ⟨r.handled, by show A.depth + (Code.builtin "type.__call__" ⟨.ref C :: args, []⟩).weight + n ≤ 400; omega, by show A.units + (Code.builtin "type.__call__" ⟨.ref C :: args, []⟩).cUnits + 10 * n ≤ 1000; omega⟩
  rw [hC] at hw1
  refine codeAny_mono (G.fn init _ _ _ _ _ (.ref (h0.objs.size + 1) :: args) hw1 r' S1 (.cons (.ref _) hv)) fun res s' zz => ?_
  obtain ⟨v, e, σ', w, S', x, ix, hx, hq⟩ := zz
  subst e hx
  cases ix
  refine ⟨rfl, _, rfl, σ', ?_, S', _, .ref _, hq⟩
  obtain ⟨⟨h2, tk2, es⟩, u⟩ := w
  subst es
  exact Way.of (u0.trans0 u)
end Mine
end
section
open PySem PySem.W PyProof.Rows PySem.SeqAt
set_option Elab.async false
set_option maxRecDepth 100000
namespace Mine
variable {κ : Kx} {Γ : Gx} {P : Px} {meths : List (PySem.Str × Addr)} {d : Nat} {env : Env} {vars : List (PySem.Str × Loc)}
noncomputable def aOp : Operator → Option Ar
  | .Mult => some .mul | .FloorDiv => some .fdiv | .Mod => some .mod | .Pow => some .pow | _ => none
theorem ar_ok {σ : Sto} {s : Shared} (S : St κ σ s) {A : Around} {op : Operator} {ar : Ar} (ho : aOp op = some ar) {x y : V} {v u : Value} {q : Post} (h : arW ar x y q σ) (hv : Is v x) (hu : Is u y) :
    Goes κ [] A (binaryOp op v u) σ s (fun v σ' => ∃ x, Is v x ∧ q x σ') := by
  obtain ⟨i, j, rfl, rfl, h⟩ := h
  cases hv with
  | int _ t =>
    cases hu with
    | int _ u =>
      cases op <;> cases ho
      · obtain ⟨h0, h1, h⟩ := h
        refine P.mul_int (After.tok S ⟨_, .int _ _, h⟩) (.of_left ?_)
        unfold Builtin.Int.intBits
        split
        · omega
        · rename_i hn
          have : i.natAbs < 2 ^ 63 := by omega
          have := (Nat.log2_lt (by intro e; apply hn; simp; omega)).mpr this
          omega
      · exact PyProof.Rows.mod_int h.1 (After.tok S ⟨_, .int _ _, h.2⟩)
      · obtain ⟨rfl, h0, h1, h⟩ := h
        by_cases hj : j = 0
        · subst hj
          exact AutoIntOps.pow_0 (by omega) rfl (After.tok S ⟨_, .int _ _, h⟩)
        · refine AutoIntOps.pow_4 (by omega) (by simpa using hj) (by decide) (by decide) ?_ (After.tok S ⟨_, .int _ _, h⟩)
          have hb : ((Builtin.Int.intBits 720720 : Nat) : Int) = 20 := by decide +kernel
          rw [hb]
          unfold Builtin.Int.intTooBig bitsLine
          simp
          omega
      · exact PyProof.Rows.floordiv_int h.1 (After.tok S ⟨_, .int _ _, h.2.2⟩) (.inl h.2.1)
theorem se_ar {a b : PySem.Expr} {op : Operator} {ar : Ar} {pos : Pos} {pa pb : PE} (ho : aOp op = some ar) (ha : SE κ d env vars a (wpE Γ pa)) (hb : SE κ d env vars b (wpE Γ pb)) : SE κ d env vars (.BinOp a op b pos) (wpE Γ (.ar ar pa pb)) := by
  rintro A s σ ε q r S F hq
  refine wpAny_BinOp (wpAny_mono (ha A s σ ε _ r S F hq) (fun v s1 zz => ?_) fun _ _ z => z)
  obtain ⟨σ1, w1, S1, x, ix, q1⟩ := zz
  refine wpAny_mono (hb A s1 σ1 ε _ r S1 (F.keep w1.fut) q1) (fun u s2 zz => ?_) fun _ _ z => z
  obtain ⟨σ2, w2, S2, y, iy, q2⟩ := zz
  exact Goes.up (w1.trans w2) (ar_ok S2 ho q2 ix iy)
noncomputable def cloVars (L : Addr) (cells : List (PySem.Str × Addr)) (vs : List (PySem.Str × Kind)) : List (PySem.Str × Loc) := frameVars L cells vs
noncomputable def cloOk (names : List (PySem.Str × NameKind)) (vs : List (PySem.Str × Kind)) : Bool :=
  decide (vs.map (·.1)).Nodup && vs.all (fun p => match p.2 with
    | .loc => names.lookup p.1 == some .local
    | .cell => names.lookup p.1 == some .free
    | .hid => false) && names.all fun p => p.2 != .cell
theorem small_div {i n : Int} (h : n.natAbs < 2 ^ 9000) : Builtin.divisionGoesByPylong i n = false := by
  unfold Builtin.divisionGoesByPylong
  dsimp only
  have : (if n == 0 then 0 else n.natAbs.log2 / 30 + 1) ≤ 300 := by
    split
    · omega
    · rename_i hn
      have h0 : n.natAbs ≠ 0 := by intro e; apply hn; simp; omega
      have := (Nat.log2_lt h0).mpr h
      omega
  rw [decide_eq_false (by omega)]
  rfl
theorem pow_small {n : Nat} (h : n ≤ 400) : ((720720 : Int) ^ n).natAbs < 2 ^ 9000 := by
  rw [Int.natAbs_pow]
  show 720720 ^ n < 2 ^ 9000
  have h1 : 720720 ^ n ≤ (2 ^ 20) ^ n := Nat.pow_le_pow_left (by decide) n
  have h2 : ((2 : Nat) ^ 20) ^ n = 2 ^ (20 * n) := (Nat.pow_mul 2 20 n).symm
  have h3 : (2 : Nat) ^ (20 * n) < 2 ^ 9000 := Nat.pow_lt_pow_right (by decide) (by omega)
  omega
end Mine
end
section
open PySem PySem.W PyProof.Rows PySem.SeqAt
set_option Elab.async false
set_option maxRecDepth 100000
namespace Mine
variable {κ : Kx} {Γ : Gx} {P : Px} {meths : List (PySem.Str × Addr)} {d : Nat} {env : Env} {vars : List (PySem.Str × Loc)}
theorem ss_subl (G : GOk κ Γ meths d) {o i : PySem.Expr} {p pos : Pos} {e : PySem.Expr} {pe po pi : PE} (hs : swapsWith e (some (.Subscript o i p)) pos.line env = pure false) (h : SE κ d env vars e (wpE Γ pe)) (ho : SE κ d env vars o (wpE Γ po)) (hi : SE κ d env vars i (wpE Γ pi)) :
    SS κ d env vars (.Assign [.Subscript o i p] e pos) (wpS Γ (.asg (.subl po pi) pe)) := by
  rintro A s σ ε q r S F hq
  refine wpAny_Assign_Subscript (wpAny_mono (h A s σ ε _ r S F hq) (fun v s1 zz => ?_) fun _ _ z => z) hs
  obtain ⟨σ1, w1, S1, x, ix, q1⟩ := zz
  refine wpAny_mono (ho A s1 σ1 ε _ r S1 (F.keep w1.fut) q1) (fun ov s2 zz => ?_) fun _ _ z => z
  obtain ⟨σ2, w2, S2, y, iy, q2⟩ := zz
  refine wpAny_mono (hi A s2 σ2 ε _ r S2 (F.keep (w1.trans w2).fut) q2) (fun iv s3 zz => ?_) fun _ _ z => z
  obtain ⟨σ3, w3, S3, k, ik, a, j, xs, e1, e2, e3, h0, hj, hz, q3⟩ := zz
  subst e1 e2
  cases iy
  cases ik
  have w := (w1.trans w2).trans w3
  obtain ⟨vs, n, o1, hvs, hb, _⟩ := S3.sits _ _ e3
  have hlt : j.toNat < vs.toArray.size := by rw [List.size_toArray, hvs.length]; exact hj
  refine ki_setAt o1 h0 (by rw [List.size_toArray, hvs.length] at hlt; omega) (by omega) ?_
  have q4 := PySem.IsL.update o1 (fun xs => xs.setIfInBounds j.toNat v)
  have e4 : vs.toArray.setIfInBounds j.toNat v = (vs.set j.toNat v).toArray := by simp
  rw [e4] at q4
  have hset : ∀ {vs : List Value} {xs : List V} (_ : Vals vs xs) (n : Nat), Vals (vs.set n v) (xs.set n x) := by
    intro vs xs h
    induction h with
    | nil => intro n; exact .nil
    | cons h1 h2 ih => intro n; cases n with | zero => exact .cons ix h2 | succ n => exact .cons h1 (ih n)
  obtain ⟨x1, x2⟩ := list_turn G S3 (tk := s3.toks) e3 q4 (Heap.SameBut.update ..) (hset hvs _) (by rw [List.length_set]; omega)
  exact ⟨.next, .next, _, ε, (w.trans (Way.of' x2)).weak, x1, (F.keep w.fut).keep x2, q3⟩
theorem Fut.comp' {W W' : List Addr} {σ σ' σ'' : Sto} {h h' h'' : Heap} (x : Fut W σ h σ' h') (y : Fut W' σ' h' σ'' h'') (hW' : ∀ b ∈ W', b ∉ W → h.get? b = none) (hx : ∀ b o, h.get? b = some o → h'.get? b = some o) : Fut W σ h σ'' h'' := by
  refine ⟨fun b o e n hw => ?_, fun a e => ?_⟩
  · refine y.keep b o (hx b o e) (x.still e n) fun hb => ?_
    rw [hW' b hb hw] at e; cases e
  · rcases y.dom a e with z | z
    · exact x.dom a z
    · cases q : h.get? a with
      | none => exact .inr rfl
      | some o => rw [hx a o q] at z; cases z
noncomputable def cloEnv (fd : FuncData) (L a : Addr) : Env := newEnv fd.scope L fd.globals fd.closure (fd.qualname ++ ".<locals>.") (some a) fd.code none fd.builtins
theorem enter_clo (G : GOk κ Γ meths d) {σ : Sto} {s : Shared} {A : Around} {f : Addr} {o : Obj} {fd : FuncData} {body : List PySem.Stmt} {vs : List (PySem.Str × Kind)} {args : List Value} {binds : List (PySem.Str × Value)} {xs : List V} {pb : PSs} {q : V → PostE} {ε : Env0}
    (r : Room A (d + 1)) (S : St κ σ s) (ho : s.heap.get? f = some o) (hdata : o.data = .func fd) (hcd : s.heap.CodeRec fd.code fd.qualname) (hbody : fd.body = .stmts body) (hgl : fd.globals = mainGlobals) (hbu : fd.builtins = builtinsNs)
    (hbind : bindArgs fd ⟨args, []⟩ = pure binds) (hnames : binds.map (·.1) = (vs.map (·.1)).take binds.length) (hv : Vals (binds.map (·.2)) xs) (hok : cloOk fd.scope.names vs = true) (hloc : ∀ y ∈ binds, fd.scope.names.lookup y.1 = some .local)
    (hco : fd.scope.isCoroutine = false) (hgen : fd.scope.isGenerator = false) (hk : fd.scope.kind = .function)
    (hclo : ∀ (i : Nat) (n : PySem.Str), vs[i]? = some (n, .cell) → xs.length ≤ i ∧ ∃ c ov, fd.closure.lookup n = some c ∧ s.heap.IsCell c ov ∧ σ c = none ∧ κ.base.get? c = none ∧ ∀ x, ε[i]? = some (some x) → ∃ v, ov = some v ∧ Is v x)
    (hdis : ∀ (i j : Nat) (n n' : PySem.Str), vs[i]? = some (n, .cell) → vs[j]? = some (n', .cell) → i ≠ j → (fd.closure.lookup n).getD 0 ≠ (fd.closure.lookup n').getD 0)
    (hε : ε.length = vs.length) (hεx : ∀ (i : Nat) (n : PySem.Str) (x : V), vs[i]? = some (n, .loc) → ε[i]? = some (some x) → xs[i]? = some x)
    (h : ∀ L vars, Fo κ (cloEnv fd L f) ⟨fd.scope.names, vs⟩ vars → SSs κ d (cloEnv fd L f) vars body (wpSs Γ pb))
    (hw : wpSs Γ pb (fun fl ε' σ' => match fl with | .ret v => q v ε' σ' | _ => False) ε σ) :
    codeAny (model κ.prog κ.w) A (.call (.ref f) ⟨args, []⟩) (fun r s' => ∃ v, r = .ok (.ret v) ∧ ∃ σ' ε' x, Way (fd.closure.map (·.2)) σ s σ' s' ∧ St κ σ' s' ∧
      (∀ (i : Nat) (n : PySem.Str) (c : Addr), vs[i]? = some (n, .cell) → fd.closure.lookup n = some c → ∃ ov, s'.heap.IsCell c ov ∧ ∀ x, ε'[i]? = some (some x) → ∃ v, ov = some v ∧ Is v x) ∧ Is v x ∧ q x ε' σ') s := by
  have T := G.ok.T.keeps (fun b o e => S.base b o e)
  unfold cloOk at hok
  obtain ⟨hok', hnocell⟩ := Bool.and_eq_true_iff.mp hok
  obtain ⟨hnd, hkinds⟩ := Bool.and_eq_true_iff.mp hok'
  have hnd := of_decide_eq_true hnd
  have kindAt : ∀ {i : Nat} {n : PySem.Str} {k : Kind}, vs[i]? = some (n, k) → (k = .loc ∧ fd.scope.names.lookup n = some .local) ∨ (k = .cell ∧ fd.scope.names.lookup n = some .free) := by
    intro i n k e
    have := List.all_eq_true.mp hkinds _ (List.mem_of_getElem? e)
    cases k with
    | loc => exact .inl ⟨rfl, by simpa using this⟩
    | cell => exact .inr ⟨rfl, by simpa using this⟩
    | hid => cases this
  have hbn : (binds.map (·.1)).Nodup := by rw [hnames]; exact List.Sublist.nodup (List.take_sublist _ _) hnd
  have bindAt : ∀ {i : Nat} {n : PySem.Str} {k : Kind} {x : V}, vs[i]? = some (n, k) → xs[i]? = some x → ∃ v, (n, v) ∈ binds ∧ Is v x := by
    intro i n k x e ex
    obtain ⟨v, ev, iv⟩ := hv.get ex
    rw [List.getElem?_map] at ev
    obtain ⟨p, hp, rfl⟩ := Option.map_eq_some_iff.mp ev
    refine ⟨p.2, ?_, iv⟩
    have e1 : (binds.map (·.1))[i]? = some p.1 := by rw [List.getElem?_map, hp]; rfl
    rw [hnames, List.getElem?_take, if_pos (List.getElem?_eq_some_iff.mp hp).1, List.getElem?_map, e] at e1
    cases e1
    exact List.mem_of_getElem? hp
  refine codeAny_call_function r.limit ho hdata hco hgen hbody hcd ?_
  rw [hbind]
  refine wpAny_pure (wpAny_newFunctionEnv (fun x hx => by have := List.all_eq_true.mp hnocell x hx; simpa using this) hloc (fun h1 hns hsb => ?_) hk)
  have keep : ∀ b o, s.heap.get? b = some o → h1.get? b = some o := fun b o e => hsb.extBut b o (Nat.ne_of_lt (Heap.lt_size e)) (Heap.get?_push_of_some _ e)
  refine ⟨T.nolimit.keeps keep, codeAny_func ?_⟩
  generalize hLe : s.heap.objs.size = L at hns hsb ⊢
  have freshA : ∀ b, L ≤ b → s.heap.get? b = none := fun b hb => by
    cases q : s.heap.get? b with
    | none => rfl
    | some o => exact absurd (Heap.lt_size q) (by rw [hLe]; exact Nat.not_lt.mpr hb)
  show wpAny _ (A.deeper (cloEnv fd L f)) (execs body (cloEnv fd L f)) _ _ _
  let vars := frameVars L fd.closure vs
  have varAt : ∀ {i : Nat} {n : PySem.Str} {l : Loc}, vars[i]? = some (n, l) → ∃ k, vs[i]? = some (n, k) ∧ ((k = .loc ∧ fd.scope.names.lookup n = some .local ∧ l = .loc L) ∨ (k = .cell ∧ fd.scope.names.lookup n = some .free ∧ ∃ c ov, fd.closure.lookup n = some c ∧ s.heap.IsCell c ov ∧ σ c = none ∧ κ.base.get? c = none ∧ (∀ x, ε[i]? = some (some x) → ∃ v, ov = some v ∧ Is v x) ∧ l = .cell c)) := by
    intro i n l e
    obtain ⟨k, hk, rfl⟩ := frame_get e
    refine ⟨k, hk, ?_⟩
    rcases kindAt hk with ⟨rfl, hl⟩ | ⟨rfl, hl⟩
    · exact .inl ⟨rfl, hl, rfl⟩
    · obtain ⟨_, c, ov, hc, h1, h2, h3, h4⟩ := hclo i n hk
      exact .inr ⟨rfl, hl, c, ov, hc, h1, h2, h3, h4, by simp [hc]⟩
  have eo : EnvOk (cloEnv fd L f) ⟨fd.scope.names, vs⟩ vars := by
    refine ⟨hk, hgl, hbu, rfl, by simp [vars, frameVars], fun i j n n' l l' e e' hij hn => ?_, fun i j n n' c l' e e' hij => ?_, fun i n e => ?_, fun i n e => ?_⟩
    · subst hn
      obtain ⟨k, hk, _⟩ := varAt e
      obtain ⟨k', hk', _⟩ := varAt e'
      exact absurd (idx_inj hnd hk hk') hij
    · obtain ⟨k, hk, h⟩ := varAt e
      obtain ⟨k', hk', h'⟩ := varAt e'
      rcases h with ⟨_, _, h⟩ | ⟨rfl, _, c1, ov, hc1, ⟨oc, eoc, _⟩, _, _, _, h⟩
      · cases h
      · cases h
        rcases h' with ⟨_, _, rfl⟩ | ⟨rfl, _, c2, _, hc2, _, _, _, _, rfl⟩
        · intro z
          have z : c = L := z
          subst z
          rw [freshA c (Nat.le_refl _)] at eoc; cases eoc
        · have := hdis i j n n' hk hk' hij
          rw [hc1, hc2] at this
          exact this
    · have e : vs[i]? = some (n, Kind.loc) := e
      show (frameVars L _ vs)[i]? = _
      unfold frameVars
      rw [List.getElem?_map, e]; rfl
    · have e : vs[i]? = some (n, Kind.cell) := e
      obtain ⟨_, c, ov, hc, _⟩ := hclo i n e
      refine ⟨c, ?_, hc⟩
      show (frameVars L _ vs)[i]? = _
      unfold frameVars
      rw [List.getElem?_map, e]
      simp [hc]
  have fo : Fo κ (cloEnv fd L f) ⟨fd.scope.names, vs⟩ vars := ⟨eo, fun i n l e => by
    obtain ⟨k, _, h⟩ := varAt e
    rcases h with ⟨_, _, rfl⟩ | ⟨_, _, c, ov, _, _, _, hb, _, rfl⟩
    · exact S.base_none (freshA _ (Nat.le_refl _))
    · exact hb⟩
  have F : FrameSt vars ε σ h1 := by
    refine ⟨by simp [vars, frameVars, hε], fun i n l e => ?_, fun i n L' e => ?_, fun i n c e => ?_⟩
    · obtain ⟨k, _, h⟩ := varAt e
      rcases h with ⟨_, _, rfl⟩ | ⟨_, _, c, ov, _, _, hσ, _, _, rfl⟩
      · exact S.none_of G.ok (freshA _ (Nat.le_refl _))
      · exact hσ
    · obtain ⟨k, hk, h⟩ := varAt e
      rcases h with ⟨rfl, hl, h⟩ | ⟨_, _, c, ov, _, _, _, _, _, h⟩
      · cases h
        refine ⟨_, hns, fun y ey => ?_⟩
        obtain ⟨v, hm, iv⟩ := bindAt hk (hεx i n y hk ey)
        refine ⟨v, ?_, iv⟩
        show binds.reverse.lookup n = some v
        have key : ∀ (l : List (PySem.Str × Value)), (l.map (·.1)).Nodup → (n, v) ∈ l → l.lookup n = some v := by
          intro l
          induction l with
          | nil => intro _ h; cases h
          | cons p l ih =>
            intro hn hm
            rw [List.lookup_cons]
            rcases List.mem_cons.mp hm with e | hm
            · subst e; rw [beq_self_eq_true]
            · have : n ≠ p.1 := fun e => (List.nodup_cons.mp hn).1 (List.mem_map.mpr ⟨(n, v), hm, e⟩)
              rw [beq_false_of_ne this]
              exact ih (List.nodup_cons.mp hn).2 hm
        exact key _ (by rw [List.map_reverse]; exact (List.reverse_perm _).nodup_iff.mpr hbn) (List.mem_reverse.mpr hm)
      · cases h
    · obtain ⟨k, hk, h⟩ := varAt e
      rcases h with ⟨_, hl, h⟩ | ⟨_, _, c1, ov, _, hcell, _, _, hx, h⟩
      · cases h
      · cases h
        exact ⟨ov, hcell.keeps keep, hx⟩
  have S1 : St κ σ { s with heap := h1, toks := s.toks + binds.length } := S.aside G.ok fun b o e _ => keep b o e
  have u0 : Fut (fd.closure.map (·.2)) σ s.heap σ h1 := Fut.same fun b o _ e => keep b o e
  refine wpAny_mono (h L vars fo (A.deeper (cloEnv fd L f)) _ σ ε _ (r.deeper _) S1 F hw) (fun fl s' zz => ?_) fun _ _ z => z.elim
  obtain ⟨g, hg, σ', ε', w, S', F', hq⟩ := zz
  obtain ⟨⟨h2, tk2, es2⟩, u⟩ := w
  subst es2
  cases hg with
  | next => exact hq.elim
  | brk => exact hq.elim
  | cont => exact hq.elim
  | @ret v x iv =>
    refine ⟨v, rfl, σ', ε', x, Way.of (u0.comp' u (fun b hb hw => ?_) keep), S', fun i n c hi hc => ?_, iv, hq⟩
    · obtain ⟨i, n, l, e, rfl⟩ := of_adrs hb
      obtain ⟨k, hk, h⟩ := varAt e
      rcases h with ⟨_, _, rfl⟩ | ⟨_, _, c, ov, hc, _, _, _, _, rfl⟩
      · exact freshA _ (Nat.le_refl _)
      · exact absurd (List.mem_map.mpr ⟨(n, c), mem_of_lookup hc, rfl⟩) hw
    · have e : vars[i]? = some (n, .cell c) := by
        show (frameVars L _ vs)[i]? = _
        unfold frameVars
        rw [List.getElem?_map, hi]
        simp [hc]
      exact F'.cell i n c e
end Mine
end
section
open PySem PySem.W PyProof.Rows PySem.SeqAt
set_option Elab.async false
set_option maxRecDepth 100000
namespace Mine
variable {κ : Kx} {Γ : Gx} {P : Px} {meths : List (PySem.Str × Addr)} {d : Nat} {env : Env} {vars : List (PySem.Str × Loc)}
noncomputable def tkP (pp : Arguments) (bb : List PySem.Stmt) (sc : Scope) (h : Heap) (a : Addr) (k : Nat) (F : List Addr) : Prop :=
  ∃ cp cc lp lc c nm q dc pm ct ks us t n n', F = [cp, cc, lp, lc, c] ∧ h.get? a = some (fnMade nm q pp bb sc [("place", cp), ("cells", cc)] dc pm c ct) ∧ h.IsCell cp (some (.ref lp)) ∧ h.IsCell cc (some (.ref lc)) ∧
    h.get? lp = some (listOf #[.int (k : Nat) t] n) ∧ h.get? lc = some (listOf us.toArray n') ∧ IntsAre us ks ∧ 0 < ks.length ∧ ks.length ≤ 63 ∧ [a, cp, cc, lp, lc, c].Nodup ∧ h.CodeRec (.ref c) q
theorem tk_keep {pp : Arguments} {bb : List PySem.Stmt} {sc : Scope} (h h' : Heap) (a : Addr) (k : Nat) (F : List Addr) (t : tkP pp bb sc h a k F) (hk : ∀ b, b = a ∨ b ∈ F → ∀ o, h.get? b = some o → h'.get? b = some o) : tkP pp bb sc h' a k F := by
  obtain ⟨cp, cc, lp, lc, c, nm, q, dc, pm, ct, ks, us, t, n, n', rfl, e1, ⟨o2, e2, d2⟩, ⟨o3, e3, d3⟩, e4, e5, hI, h0, h1, hn, ⟨c', oc, vs, tt, ec, e6, r⟩⟩ := t
  cases ec
  exact ⟨cp, cc, lp, lc, c, nm, q, dc, pm, ct, ks, us, t, n, n', rfl, hk _ (.inl rfl) _ e1, ⟨o2, hk _ (.inr (by simp)) _ e2, d2⟩, ⟨o3, hk _ (.inr (by simp)) _ e3, d3⟩, hk _ (.inr (by simp)) _ e4, hk _ (.inr (by simp)) _ e5, hI, h0, h1, hn, c, oc, vs, tt, rfl, hk _ (.inr (by simp)) _ e6, r⟩
theorem tk_at {pp : Arguments} {bb : List PySem.Stmt} {sc : Scope} (h : Heap) (a : Addr) (k : Nat) (F : List Addr) (t : tkP pp bb sc h a k F) : ∃ o, h.get? a = some o := by
  obtain ⟨cp, cc, lp, lc, c, nm, q, dc, pm, ct, ks, us, t, n, n', rfl, e1, _⟩ := t
  exact ⟨_, e1⟩
theorem tk_keeper {pp : Arguments} {bb : List PySem.Stmt} {sc : Scope} {M : Model} (h : Heap) (a : Addr) (k : Nat) (F : List Addr) (t : tkP pp bb sc h a k F) : ∃ kp, (kp = Keeper.frame ∨ kp = Keeper.machine ∨ kp = Keeper.boundFrame) ∧ Looks M h (keeperOf (.ref a)) kp := by
  obtain ⟨cp, cc, lp, lc, c, nm, q, dc, pm, ct, ks, us, t, n, n', rfl, e1, _⟩ := t
  exact ⟨.frame, .inl rfl, (Looks.ld (part := none) e1).andThen .now⟩
@[reducible] noncomputable def takeVs : List (PySem.Str × Kind) := [("limit", .loc), ("k", .loc), ("level", .loc), ("place", .cell), ("cells", .cell)]
@[reducible] noncomputable def takeB : PSs := .cons (.asg (.var 1) (.sub (.var 3) (.int 0))) (.cons (.asg (.subl (.var 3) (.int 0)) (.add (.var 1) (.int 1))) (.cons (.asg (.var 2) (.ar .fdiv (.var 1) (.bi .len (.var 4))))
  (.cons (.ret (.ar .mod (.add (.ar .fdiv (.sub (.var 4) (.ar .mod (.var 1) (.bi .len (.var 4)))) (.ar .pow (.int 720720) (.var 2))) (.ar .mul (.var 2) (.add (.ar .mul (.int 7) (.var 1)) (.int 3)))) (.var 0))) .nil)))
theorem take_pure {Γ : Gx} (hst : ∀ a, Γ.stat a = none) {lp lc : Addr} {k : Nat} {ks : List Int} {lim : Int} {σ : Sto} (hlp : σ lp = some (.list true [.int (k : Nat)])) (hlc : σ lc = some (.list true (ks.map .int))) (ne : lc ≠ lp) (h0 : 0 < ks.length) (h1 : ks.length ≤ 63) (hk : k < 400) (hl : 0 < lim)
    {q : V → PostE} (hq : ∀ r : Int, 0 ≤ r → r < lim → ∀ k' l', q (.int r) [some (.int lim), some k', some l', some (.ref lp), some (.ref lc)] (σ.set lp (.list true [.int ((k + 1 : Nat) : Int)]))) :
    wpSs Γ takeB (fun fl ε' σ' => match fl with | .ret v => q v ε' σ' | _ => False) [some (.int lim), none, none, some (.ref lp), some (.ref lc)] σ := by
  have hlook : ∀ (τ : Sto) a, look Γ τ a = τ a := fun τ a => by unfold look; rw [hst]
  have hn : ((ks.length : Nat) : Int) ≠ 0 := by omega
  have hdiv : Builtin.divisionGoesByPylong (k : Nat) ((ks.length : Nat) : Int) = false := small_div (by
    have : (((ks.length : Nat) : Int)).natAbs = ks.length := Int.natAbs_natCast _
    rw [this]
    exact Nat.lt_of_le_of_lt h1 (by decide +kernel))
  have hfd : ((k : Nat) : Int).fdiv ((ks.length : Nat) : Int) = ((k / ks.length : Nat) : Int) := by
    rw [Int.fdiv_eq_ediv_of_nonneg _ (by omega)]; rfl
  have hfm : ((k : Nat) : Int).fmod ((ks.length : Nat) : Int) = ((k % ks.length : Nat) : Int) := by
    rw [Int.fmod_eq_emod_of_nonneg _ (by omega)]; rfl
  have hle : k / ks.length ≤ 400 := Nat.le_trans (Nat.div_le_self _ _) (by omega)
  have hlt : k % ks.length < ks.length := Nat.mod_lt _ h0
  have hq0 : (0 : Int) ≤ ((k / ks.length : Nat) : Int) := Int.natCast_nonneg _
  have hq1 : ((k / ks.length : Nat) : Int) ≤ 400 := Int.ofNat_le.mpr hle
  have hget : (ks.map V.int)[k % ks.length]? = some (.int ks[k % ks.length]) := by simp [hlt]
  have hpos : (0 : Int) < 720720 ^ (k / ks.length) := Int.pow_pos (by decide)
  have hlc' : (σ.set lp (.list true ([V.int (k : Nat)].set (Int.toNat 0) (V.int ((k : Nat) + 1))))) lc = some (.list true (ks.map .int)) := by rw [Sto.set_ne _ _ ne]; exact hlc
  show wpE Γ _ _ _ _
  refine ⟨_, rfl, ?_⟩
  show subW Γ (.ref lp) (.int 0) _ σ
  unfold subW
  dsimp only
  rw [hlook, hlp]
  refine ⟨by decide, by decide, _, rfl, by simp, ?_⟩
  refine ⟨_, rfl, ?_⟩
  refine ⟨_, rfl, _, _, _, rfl, rfl, hlp, by decide, by simp, by simp, ?_⟩
  refine ⟨_, rfl, _, rfl, _, _, (hlook _ _).trans hlc', rfl, (fun _ => nofun), (fun _ => nofun), ?_⟩
  rw [List.length_map]
  refine ⟨_, _, rfl, rfl, hn, hdiv, by simp, ?_⟩
  rw [hfd]
  refine ⟨_, rfl, _, rfl, _, rfl, _, _, (hlook _ _).trans hlc', rfl, (fun _ => nofun), (fun _ => nofun), ?_⟩
  rw [List.length_map]
  refine ⟨_, _, rfl, rfl, hn, ?_⟩
  rw [hfm]
  show subW Γ (.ref lc) (.int ((k % ks.length : Nat) : Int)) _ _
  unfold subW
  dsimp only
  rw [hlook, hlc']
  refine ⟨by omega, by unfold big; omega, _, by rw [Int.toNat_natCast]; exact hget, _, rfl, _, _, rfl, rfl, rfl, by omega, by omega, ?_⟩
  rw [Int.toNat_natCast]
  refine ⟨_, _, rfl, rfl, by omega, small_div (pow_small hle), _, rfl, _, rfl, _, _, rfl, rfl, by decide, by decide, _, _, rfl, rfl, by omega, by omega, _, rfl, _, _, rfl, rfl, by omega, ?_⟩
  have e : ((k : Nat) : Int) + 1 = ((k + 1 : Nat) : Int) := by omega
  refine cast (by rw [← e]; rfl) (hq _ ?_ ?_ (.int (k : Nat)) (.int ((k / ks.length : Nat) : Int)))
  · rw [Int.fmod_eq_emod_of_nonneg _ (by omega)]; exact Int.emod_nonneg _ (by omega)
  · rw [Int.fmod_eq_emod_of_nonneg _ (by omega)]; exact Int.emod_lt_of_pos _ hl
end Mine
end
section
open PySem PySem.W PyProof.Rows PySem.SeqAt
set_option Elab.async false
set_option maxRecDepth 100000
namespace Mine
variable {κ : Kx} {Γ : Gx} {P : Px} {meths : List (PySem.Str × Addr)} {d : Nat} {env : Env} {vars : List (PySem.Str × Loc)}
@[reducible] noncomputable def Kx.bare (κ : Kx) : Kx := { κ with tk := fun _ _ _ _ => False }
theorem take_ok {pp : Arguments} {bb : List PySem.Stmt} {sc : Scope} (hκ : κ.tk = tkP pp bb sc) (O : κ.Ok) {C : Addr} (hcls : clsOk κ.K C κ.names meths = true)
    (hargs : ∀ nm q cl dc pm c ct v, bindArgs (fnX nm q pp bb sc cl .none .none dc pm none (.ref c) ct) ⟨[v], []⟩ = pure [(("limit" : PySem.Str), v)])
    (hok : cloOk sc.names takeVs = true) (hloc : sc.names.lookup ("limit" : PySem.Str) = some NameKind.local) (hco : sc.isCoroutine = false) (hgen : sc.isGenerator = false) (hkd : sc.kind = .function)
    (hder : ∀ Γ' n, GOk κ.bare Γ' meths n → ∀ nm q cl dc pm c ct L f vars, Fo κ.bare (cloEnv (fnX nm q pp bb sc cl .none .none dc pm none (.ref c) ct) L f) ⟨sc.names, takeVs⟩ vars →
      SSs κ.bare n (cloEnv (fnX nm q pp bb sc cl .none .none dc pm none (.ref c) ct) L f) vars bb (wpSs Γ' takeB))
    (a : Addr) (k : Nat) (lim : Int) (t : Tok) (n : Nat) (A : Around) (s : Shared) (σ : Sto) (q : Post) (r : Room A (n + 1)) (S : St κ σ s) (ha : σ a = some (.taker k)) (hk : k < 400) (hl0 : 0 < lim) (_hl1 : lim ≤ 1000)
    (hq : ∀ r : Int, 0 ≤ r → r < lim → q (V.int r) (σ.set a (.taker (k + 1)))) : Goes κ [] A (call (.ref a) [.int lim t]) σ s (fun v σ' => ∃ x, Is v x ∧ q x σ') := by
  obtain ⟨F, htk, hpriv⟩ := S.sits _ _ ha
  rw [hκ] at htk
  obtain ⟨cp, cc, lp, lc, c, nm, qn, dc, pm, ct, ks, us, t', n1, n2, rfl, e1, e2, e3, e4, e5, hI, h0, h1, hnd, hcr⟩ := htk
  simp only [List.nodup_cons, List.mem_cons, List.not_mem_nil, or_false, not_or, List.nodup_nil, not_false_eq_true, and_true] at hnd
  obtain ⟨⟨ha1, ha2, ha3, ha4, ha5⟩, ⟨hp1, hp2, hp3, hp4⟩, ⟨hc1, hc2, hc3⟩, ⟨hl1, hl2⟩, hlc⟩ := hnd
  have pr : ∀ b, (b = cp ∨ b = cc ∨ b = lp ∨ b = lc ∨ b = c) → σ b = some (.priv a) ∧ κ.base.get? b = none := fun b hb => hpriv b (by simpa using hb)
  have O' : κ.bare.Ok := ⟨O.X, O.T, fun _ _ _ _ _ h => h.elim, fun _ _ _ _ h => h.elim⟩
  let Γ' : Gx := ⟨fun _ => none, C, fun i => ((meths[i]?).map (·.2)).getD 0, fun _ _ _ _ => False⟩
  have G' : GOk κ.bare Γ' meths n := ⟨O', (fun _ _ h => nomatch h), (fun _ _ h => nomatch h), hcls, (fun i p h => by simp [Γ', h]), (fun _ _ _ _ _ _ _ h => h.elim),
    (fun _ a k lim t A s σ q _ S e => by obtain ⟨F, h, _⟩ := S.sits _ _ e; exact h.elim), (fun _ _ _ _ h => h.elim)⟩
  let τ : Sto := fun b => if b = lp then some (.list true [.int (k : Nat)]) else if b = lc then some (.list true (ks.map .int)) else none
  have tlp : τ lp = some (.list true [.int (k : Nat)]) := if_pos rfl
  have tlc : τ lc = some (.list true (ks.map .int)) := by show (if lc = lp then _ else _) = _; rw [if_neg (Ne.symm hl1), if_pos rfl]
  have tno : ∀ b, b ≠ lp → b ≠ lc → τ b = none := fun b x y => by show (if b = lp then _ else _) = _; rw [if_neg x, if_neg y]
  have S' : St κ.bare τ s := by
    refine ⟨fun b o e => ?_, S.base⟩
    by_cases x : b = lp
    · subst x
      rw [tlp] at e; cases e
      exact ⟨[.int (k : Nat) t'], n1, e4, .cons (.int _ _) .nil, fun _ => (pr _ (.inr (.inr (.inl rfl)))).2, by simp⟩
    · by_cases y : b = lc
      · subst y
        rw [tlc] at e; cases e
        exact ⟨us, n2, e5, ints_vals hI, fun _ => (pr _ (.inr (.inr (.inr (.inl rfl))))).2, by rw [List.length_map]; omega⟩
      · rw [tno b x y] at e; cases e
  refine wpAny_call (codeAny_mono (enter_clo (κ := κ.bare) (Γ := Γ') (vs := takeVs) (xs := [.int lim]) (ε := [some (.int lim), none, none, some (.ref lp), some (.ref lc)]) (binds := [(("limit" : PySem.Str), .int lim t)]) (pb := takeB)
    (q := fun x ε' σ' => ∃ r : Int, x = .int r ∧ 0 ≤ r ∧ r < lim ∧ (∃ k' l', ε' = [some (.int lim), some k', some l', some (.ref lp), some (.ref lc)]) ∧ σ' = τ.set lp (.list true [.int ((k + 1 : Nat) : Int)]))
    G' r S' e1 rfl hcr rfl rfl rfl (hargs _ _ _ _ _ _ _ _) rfl (.cons (.int _ _) .nil) hok (fun y hy => ?_) hco hgen hkd (fun i m hi => ?_) (fun i j m m' hi hj hij => ?_) rfl (fun i m x hi hx => ?_) (fun L vars fo => hder Γ' n G' _ _ _ _ _ _ _ _ _ vars fo)
    (take_pure (fun _ => rfl) tlp tlc (Ne.symm hl1) h0 h1 hk hl0 fun r r0 r1 k' l' => ⟨r, rfl, r0, r1, ⟨k', l', rfl⟩, rfl⟩)) ?_)
  · have : y = (("limit" : PySem.Str), Value.int lim t) := by simpa using hy
    subst this; exact hloc
  · have key : ∀ (c : Addr) (lx : Addr) (m : PySem.Str), s.heap.IsCell c (some (.ref lx)) → (c = cp ∨ c = cc) → c ≠ lp → c ≠ lc → ([("place", cp), ("cells", cc)] : List (PySem.Str × Addr)).lookup m = some c →
        ∃ c' ov, ([("place", cp), ("cells", cc)] : List (PySem.Str × Addr)).lookup m = some c' ∧ s.heap.IsCell c' ov ∧ τ c' = none ∧ κ.bare.base.get? c' = none ∧ ∀ x, (some (some (V.ref lx)) : Option (Option V)) = some (some x) → ∃ v, ov = some v ∧ Is v x :=
      fun c lx m h1 h2 h3 h4 h5 => ⟨c, _, h5, h1, tno c h3 h4, (pr c (h2.elim .inl fun z => .inr (.inl z))).2, fun x hx => by cases hx; exact ⟨_, rfl, .ref _⟩⟩
    match i, hi with
    | 0, hi => simp at hi
    | 1, hi => simp at hi
    | 2, hi => simp at hi
    | 3, hi => simp at hi; subst hi; exact ⟨by simp, key cp lp _ e2 (.inl rfl) (by omega) (by omega) rfl⟩
    | 4, hi => simp at hi; subst hi; exact ⟨by simp, key cc lc _ e3 (.inr rfl) (by omega) (by omega) rfl⟩
    | i + 5, hi => simp at hi
  · match i, hi, j, hj with
    | 3, hi, 4, hj => simp at hi hj; subst hi hj; exact hp1
    | 4, hi, 3, hj => simp at hi hj; subst hi hj; exact Ne.symm hp1
    | 3, hi, 3, hj => exact absurd rfl hij
    | 4, hi, 4, hj => exact absurd rfl hij
    | 0, hi, _, _ => simp at hi
    | 1, hi, _, _ => simp at hi
    | 2, hi, _, _ => simp at hi
    | i + 5, hi, _, _ => simp at hi
    | _, _, 0, hj => simp at hj
    | _, _, 1, hj => simp at hj
    | _, _, 2, hj => simp at hj
    | _, _, j + 5, hj => simp at hj
  · match i, hi, hx with
    | 0, hi, hx => simpa using hx
    | 1, hi, hx => simp at hx
    | 2, hi, hx => simp at hx
    | 3, hi, hx => simp at hi
    | 4, hi, hx => simp at hi
    | i + 5, hi, hx => simp at hi
  · rintro res s' ⟨v, rfl, σ', ε', x, w, S2, hcells, iv, r', rfl, r0, r1, ⟨k', l', rfl⟩, rfl⟩
    obtain ⟨⟨h', tk', es⟩, u⟩ := w
    subst es
    dsimp only at S2 u hcells
    obtain ⟨ov, hcp, ox⟩ := hcells 3 "place" cp rfl rfl
    obtain ⟨_, rfl, ix⟩ := ox (.ref lp) rfl
    cases ix
    obtain ⟨ov, hcc, ox⟩ := hcells 4 "cells" cc rfl rfl
    obtain ⟨_, rfl, ix⟩ := ox (.ref lc) rfl
    cases ix
    obtain ⟨us1, m1, f1, hv1, _⟩ := S2.sits lp _ (Sto.set_self _ _ _)
    obtain ⟨us2, m2, f2, hv2, _⟩ := S2.sits lc (.list true (ks.map .int)) (by rw [Sto.set_ne _ _ (Ne.symm hl1)]; exact tlc)
    have keepA : ∀ b o, b ≠ cp → b ≠ cc → b ≠ lp → b ≠ lc → s.heap.get? b = some o → h'.get? b = some o := fun b o x1 x2 x3 x4 e => u.keep b o e (tno b x3 x4) (by simp [x1, x2])
    have keepB : ∀ b o, b ∉ [cp, cc, lp, lc, c] → s.heap.get? b = some o → h'.get? b = some o := fun b o hb e => by
      simp only [List.mem_cons, List.not_mem_nil, or_false, not_or] at hb
      exact keepA b o hb.1 hb.2.1 hb.2.2.1 hb.2.2.2.1 e
    have hv1' : ∃ tt, us1 = [.int ((k + 1 : Nat) : Int) tt] := by
      cases hv1 with
      | cons i1 hr => cases hr; cases i1; exact ⟨_, rfl⟩
    obtain ⟨tt, rfl⟩ := hv1'
    have hcr' : h'.CodeRec (.ref c) qn := by
      obtain ⟨c', oc, vs, tq, ec, e6, r6⟩ := hcr
      cases ec
      exact ⟨c, oc, vs, tq, rfl, keepA c oc (Ne.symm hp4) (Ne.symm hc3) (Ne.symm hl2) (Ne.symm hlc) e6, r6⟩
    have htk' : tkP pp bb sc h' a (k + 1) [cp, cc, lp, lc, c] :=
      ⟨cp, cc, lp, lc, c, nm, qn, dc, pm, ct, ks, us2, tt, m1, m2, rfl, keepA a _ ha1 ha2 ha3 ha4 e1, hcp, hcc, f1, f2, ints_are hv2 (intsOf_map ks), h0, h1, by
        simp only [List.nodup_cons, List.mem_cons, List.not_mem_nil, or_false, not_or, List.nodup_nil, not_false_eq_true, and_true]
        exact ⟨⟨ha1, ha2, ha3, ha4, ha5⟩, ⟨hp1, hp2, hp3, hp4⟩, ⟨hc1, hc2, hc3⟩, ⟨hl1, hl2⟩, hlc⟩, hcr'⟩
    have hF : ∀ b ∈ [cp, cc, lp, lc, c], ∃ o, h'.get? b = some o := by
      obtain ⟨o1, g1, _⟩ := hcp
      obtain ⟨o2, g2, _⟩ := hcc
      obtain ⟨c', oc, vs, tq, ec, e6, r6⟩ := hcr'
      cases ec
      intro b hb
      simp only [List.mem_cons, List.not_mem_nil, or_false] at hb
      rcases hb with rfl | rfl | rfl | rfl | rfl
      · exact ⟨_, g1⟩
      · exact ⟨_, g2⟩
      · exact ⟨_, f1⟩
      · exact ⟨_, f2⟩
      · exact ⟨_, e6⟩
    have pr' : ∀ b ∈ [cp, cc, lp, lc, c], σ b = some (.priv a) ∧ κ.base.get? b = none := hpriv
    have ne_a : ∀ b ∈ [cp, cc, lp, lc, c], b ≠ a := fun b hb e => by have := (pr' b hb).1; rw [e, ha] at this; cases this
    refine ⟨σ.set a (.taker (k + 1)), Way.of ⟨fun b o e hn _ => keepB b o (fun hb => by rw [(pr' b hb).1] at hn; cases hn) e, fun b hb => ?_⟩, ⟨fun b o e => ?_, fun b o e => keepB b o (fun hb => by rw [(pr' b hb).2] at e; cases e) (S.base b o e)⟩, _, iv, hq r' r0 r1⟩
    · by_cases x : b = a
      · subst x; left; rw [ha]; exact fun z => nomatch z
      · rw [Sto.set_ne _ _ x] at hb; exact .inl hb
    · by_cases x : b = a
      · subst x
        rw [Sto.set_self] at e; cases e
        exact ⟨[cp, cc, lp, lc, c], by rw [hκ]; exact htk', fun b' hb' => ⟨by rw [Sto.set_ne _ _ (ne_a b' hb')]; exact (pr' b' hb').1, (pr' b' hb').2⟩⟩
      · rw [Sto.set_ne _ _ x] at e
        by_cases y : b ∈ [cp, cc, lp, lc, c]
        · rw [(pr' b y).1] at e; cases e
          exact hF b y
        · refine (S.sits b o e).keep O (fun c' oc hc ec => keepB c' oc (fun hm => ?_) ec) fun c' hc' => ?_
          · rcases hc with rfl | hc
            · exact y hm
            · rw [(pr' c' hm).1] at hc; cases hc; exact x rfl
          · rw [Sto.set_ne _ _ (fun z => by rw [z, ha] at hc'; cases hc')]; exact hc'
end Mine
end
section
open PySem PySem.W PyProof.Rows PySem.SeqAt
set_option Elab.async false
set_option maxRecDepth 100000
namespace Mine
variable {κ : Kx} {P : Px} {meths : List (PySem.Str × Addr)}
noncomputable def sto0 (f : Addr) (F : List Addr) : Sto := (Sto.hide (fun _ => none) F f).set f (.taker 0)
theorem law_close {pp : Arguments} {bb : List PySem.Stmt} {sc : Scope} (Gr : ∀ n, GOk κ (P.gx n) meths n) (htk : κ.tk = tkP pp bb sc) {s : Shared} {L : Addr} {m : PySem.Str → Option Value} {news : List (Addr × Obj)} {A : Around} {E : Value → Shared → Prop}
    (F : Fr κ.base L s.heap m) (N : News κ.base L s.heap news) {f cp cc lp lc c ct0 : Addr} {nm q : PySem.Str} {dc pm ct : Value} {o2 o3 oc o7 : Obj} {us vc : _} {ks : List Int} {t tq : Tok} {n n' : Nat}
    (m1 : (f, fnMade nm q pp bb sc [("place", cp), ("cells", cc)] dc pm c ct) ∈ news) (m2 : (cp, o2) ∈ news) (d2 : o2.data = .cell (some (.ref lp))) (m3 : (cc, o3) ∈ news) (d3 : o3.data = .cell (some (.ref lc)))
    (m4 : (lp, listOf #[.int 0 t] n) ∈ news) (m5 : (lc, listOf (us : List Value).toArray n') ∈ news) (hI : IntsAre us ks) (h0 : 0 < ks.length) (h1 : ks.length ≤ 63) (hnd : [f, cp, cc, lp, lc, c].Nodup)
    (m6 : (c, oc) ∈ news) (d6 : oc.data = .fields vc) (d6' : vc[1]? = some (.str q tq)) (m7 : (ct0, o7) ∈ news) (d7 : o7.data = .cell (some (.ref f))) (h7 : ct0 ∉ [f, cp, cc, lp, lc, c])
    {env : Env} {rest : List PySem.Stmt} {pb : PSs} {vs : List (PySem.Str × Kind)} (hkd : env.scope.kind = .function) (hgl : env.globals = mainGlobals) (hbu : env.builtins = builtinsNs) (hL : env.locals = L) (hc : env.cells.lookup ("take" : PySem.Str) = some ct0)
    (hok : frameOk env.scope.names vs = true) (hcl : ∀ (i : Nat) (n : PySem.Str), vs[i]? = some (n, .cell) → i = 1 ∧ n = "take") (hv1 : vs[1]? = some (("take" : PySem.Str), .cell)) (hlen : 2 ≤ vs.length)
    (hS : ∀ vars, Fo κ env ⟨env.scope.names, vs⟩ vars → SSs κ 6 env vars rest (wpSs (P.gx 6) pb))
    (hw : ∀ f F, f ∉ F → wpSs (P.gx 6) pb (fun fl _ _ => fl = .ret (.bool true)) (none :: some (.ref f) :: List.replicate (vs.length - 2) none) (sto0 f F))
    (r : Room A 6) {R : Flow → Shared → Prop}
    (hR : ∀ s', (∃ h tk, s' = { s with heap := h, toks := tk }) → κ.base.StaysIn s'.heap → (∀ b o, b ≠ L → b ∉ [f, cp, cc, lp, lc, c, ct0] → s.heap.get? b = some o → s'.heap.get? b = some o) → R (.ret (.bool true)) s') :
    wpAny (model κ.prog κ.w) A (execs rest env) R E s := by
  have O := (Gr 0).ok
  have hf : f ∉ [cp, cc, lp, lc, c] := (List.nodup_cons.mp hnd).1
  have at_ : ∀ {a o}, (a, o) ∈ news → s.heap.get? a = some o ∧ a ≠ L ∧ κ.base.get? a = none := fun h => N _ h
  have hpart : ∀ b ∈ [cp, cc, lp, lc, c], ∃ o, s.heap.get? b = some o ∧ b ≠ L ∧ κ.base.get? b = none := by
    intro b hb
    simp only [List.mem_cons, List.not_mem_nil, or_false] at hb
    rcases hb with rfl | rfl | rfl | rfl | rfl
    · exact ⟨_, at_ m2⟩
    · exact ⟨_, at_ m3⟩
    · exact ⟨_, at_ m4⟩
    · exact ⟨_, at_ m5⟩
    · exact ⟨_, at_ m6⟩
  have hbL : κ.base.get? L = none := by
    cases q : κ.base.get? L with
    | none => rfl
    | some o => exact absurd (Heap.lt_size q) (Nat.not_lt.mpr F.above)
  obtain ⟨ga, gb, gc⟩ := at_ m1
  obtain ⟨ha, hb, hc'⟩ := at_ m7
  have sf : sto0 f [cp, cc, lp, lc, c] f = some (.taker 0) := Sto.set_self _ _ _
  have sp : ∀ b ∈ [cp, cc, lp, lc, c], sto0 f [cp, cc, lp, lc, c] b = some (.priv f) := fun b hb => by
    unfold sto0
    rw [Sto.set_ne _ _ (fun e => by subst e; exact hf hb)]
    unfold Sto.hide
    rw [if_pos hb]
  have sn : ∀ b, b ≠ f → b ∉ [cp, cc, lp, lc, c] → sto0 f [cp, cc, lp, lc, c] b = none := fun b h1 h2 => by
    unfold sto0
    rw [Sto.set_ne _ _ h1]
    unfold Sto.hide
    rw [if_neg h2]
  have S : St κ (sto0 f [cp, cc, lp, lc, c]) s := by
    refine ⟨fun b o e => ?_, F.keep⟩
    by_cases x : b = f
    · subst x
      rw [sf] at e; cases e
      refine ⟨[cp, cc, lp, lc, c], ?_, fun b' hb' => ⟨sp b' hb', (hpart b' hb').choose_spec.2.2⟩⟩
      rw [htk]
      exact ⟨cp, cc, lp, lc, c, nm, q, dc, pm, ct, ks, us, t, n, n', rfl, ga, ⟨o2, (at_ m2).1, d2⟩, ⟨o3, (at_ m3).1, d3⟩, (at_ m4).1, (at_ m5).1, hI, h0, h1, hnd, c, oc, _, tq, rfl, (at_ m6).1, d6, d6'⟩
    · by_cases y : b ∈ [cp, cc, lp, lc, c]
      · rw [sp b y] at e; cases e
        obtain ⟨o, eo, _⟩ := hpart b y
        exact ⟨o, eo⟩
      · rw [sn b x y] at e; cases e
  have h7' : ct0 ≠ f ∧ ct0 ∉ [cp, cc, lp, lc, c] := by simpa only [List.mem_cons, not_or] using h7
  have hLs : sto0 f [cp, cc, lp, lc, c] L = none := sn L (Ne.symm gb) fun h => (hpart L h).choose_spec.2.1 rfl
  unfold frameOk at hok
  obtain ⟨hnd', hkinds⟩ := Bool.and_eq_true_iff.mp hok
  have hnd' := of_decide_eq_true hnd'
  let vars := frameVars L env.cells vs
  have varAt : ∀ {i : Nat} {n : PySem.Str} {l : Loc}, vars[i]? = some (n, l) → ∃ k, vs[i]? = some (n, k) ∧ ((k = .loc ∧ l = .loc L) ∨ (k = .cell ∧ i = 1 ∧ n = "take" ∧ l = .cell ct0)) := by
    intro i n l e
    obtain ⟨k, hk, rfl⟩ := frame_get e
    refine ⟨k, hk, ?_⟩
    cases k with
    | loc => exact .inl ⟨rfl, rfl⟩
    | cell =>
      obtain ⟨rfl, rfl⟩ := hcl i n hk
      exact .inr ⟨rfl, rfl, rfl, by simp [hc]⟩
    | hid => have := List.all_eq_true.mp hkinds _ (List.mem_of_getElem? hk); cases this
  have eo : EnvOk env ⟨env.scope.names, vs⟩ vars := by
    refine ⟨hkd, hgl, hbu, rfl, by simp [vars, frameVars], fun i j n n' l l' e e' hij hn => ?_, fun i j n n' c l' e e' hij => ?_, fun i n e => ?_, fun i n e => ?_⟩
    · subst hn
      obtain ⟨k, hk, _⟩ := varAt e
      obtain ⟨k', hk', _⟩ := varAt e'
      exact absurd (idx_inj hnd' hk hk') hij
    · obtain ⟨k, hk, h⟩ := varAt e
      obtain ⟨k', hk', h'⟩ := varAt e'
      rcases h with ⟨_, h⟩ | ⟨_, rfl, rfl, h⟩
      · cases h
      · cases h
        rcases h' with ⟨_, rfl⟩ | ⟨_, rfl, rfl, rfl⟩
        · exact hb
        · exact absurd rfl hij
    · have e : vs[i]? = some (n, Kind.loc) := e
      show (frameVars L _ vs)[i]? = some (n, .loc env.locals)
      unfold frameVars
      rw [List.getElem?_map, e, hL]; rfl
    · have e : vs[i]? = some (n, Kind.cell) := e
      obtain ⟨rfl, rfl⟩ := hcl i n e
      refine ⟨ct0, ?_, hc⟩
      show (frameVars L _ vs)[1]? = _
      unfold frameVars
      rw [List.getElem?_map, e]
      simp [hc]
  have fo : Fo κ env ⟨env.scope.names, vs⟩ vars := ⟨eo, fun i n l e => by
    obtain ⟨k, _, h⟩ := varAt e
    rcases h with ⟨_, rfl⟩ | ⟨_, _, _, rfl⟩
    · exact hbL
    · exact hc'⟩
  have Fs : FrameSt vars (none :: some (.ref f) :: List.replicate (vs.length - 2) none) (sto0 f [cp, cc, lp, lc, c]) s.heap := by
    have hrep : ∀ (i : Nat) (x : V), i ≠ 1 → (none :: some (.ref f) :: List.replicate (vs.length - 2) (none : Option V))[i]? = some (some x) → False := by
      intro i x hi e
      match i, hi, e with
      | 0, _, e => cases e
      | i + 2, _, e =>
        have e : (List.replicate (vs.length - 2) (none : Option V))[i]? = some (some x) := e
        have := List.mem_of_getElem? e
        rw [List.mem_replicate] at this
        cases this.2
    refine ⟨by simp [vars, frameVars]; omega, fun i n l e => ?_, fun i n L' e => ?_, fun i n c e => ?_⟩
    · obtain ⟨k, _, h⟩ := varAt e
      rcases h with ⟨_, rfl⟩ | ⟨_, _, _, rfl⟩
      · exact hLs
      · exact sn ct0 h7'.1 h7'.2
    · obtain ⟨k, hk, h⟩ := varAt e
      rcases h with ⟨rfl, h⟩ | ⟨_, _, _, h⟩
      · cases h
        refine ⟨m, F.ns, fun y ey => (hrep i y (fun hi => ?_) ey).elim⟩
        subst hi
        have a1 : vs[1]? = some (n, Kind.loc) := hk
        rw [hv1] at a1
        cases a1
      · cases h
    · obtain ⟨k, hk, h⟩ := varAt e
      rcases h with ⟨_, h⟩ | ⟨_, rfl, _, h⟩
      · cases h
      · cases h
        exact ⟨_, ⟨o7, ha, d7⟩, fun y ey => by cases ey; exact ⟨_, rfl, .ref _⟩⟩
  refine wpAny_mono (hS vars fo A s _ _ _ r S Fs (hw f _ hf)) (fun fl s' zz => ?_) fun _ _ z => z.elim
  obtain ⟨g, hg, σ', ε', w, S', F', hq⟩ := zz
  subst hq
  cases hg with
  | ret iv =>
    cases iv
    refine hR s' w.same S'.base fun b o h1 h2 e => w.fut.keep b o e (sn b (fun z => h2 (by simp [z])) fun z => h2 ?_) fun hb => ?_
    · simp only [List.mem_cons, List.not_mem_nil, or_false] at z ⊢
      rcases z with z | z | z | z | z <;> simp [z]
    · obtain ⟨i, n, l, ei, rfl⟩ := of_adrs hb
      obtain ⟨k, _, h⟩ := varAt ei
      rcases h with ⟨_, rfl⟩ | ⟨_, _, _, rfl⟩
      · exact h1 rfl
      · exact h2 (by simp [Loc.adr])
theorem nd6 {f cp cc lp lc c : Addr} (h1 : @LT.lt Nat instLTNat cc cp) (h2 : @LT.lt Nat instLTNat cp lc) (h3 : @LT.lt Nat instLTNat lc lp) (h4 : @LT.lt Nat instLTNat lp c) (h5 : @LT.lt Nat instLTNat c f) : [f, cp, cc, lp, lc, c].Nodup := by
  have e : ∀ {a b : Nat}, a < b → a ≠ b := fun h e => by omega
  have e' : ∀ {a b : Nat}, a < b → b ≠ a := fun h e => by omega
  have t := @Nat.lt_trans
  simp only [List.nodup_cons, List.mem_cons, List.not_mem_nil, or_false, not_or, List.nodup_nil, not_false_eq_true, and_true]
  exact ⟨⟨e' (t (t (t h2 h3) h4) h5), e' (t (t (t (t h1 h2) h3) h4) h5), e' (t h4 h5), e' (t (t h3 h4) h5), e' h5⟩, ⟨e' h1, e (t h2 h3), e h2, e (t (t h2 h3) h4)⟩, ⟨e (t (t h1 h2) h3), e (t h1 h2), e (t (t (t h1 h2) h3) h4)⟩, ⟨e' h3, e h4⟩, e (t h3 h4)⟩
theorem nd7 {f cp cc lp lc c ct : Addr} (h0 : @LT.lt Nat instLTNat ct cc) (h1 : @LT.lt Nat instLTNat cc cp) (h2 : @LT.lt Nat instLTNat cp lc) (h3 : @LT.lt Nat instLTNat lc lp) (h4 : @LT.lt Nat instLTNat lp c) (h5 : @LT.lt Nat instLTNat c f) : ct ∉ [f, cp, cc, lp, lc, c] := by
  have e : ∀ {a b : Nat}, a < b → a ≠ b := fun h e => by omega
  have t := @Nat.lt_trans
  simp only [List.mem_cons, List.not_mem_nil, or_false, not_or]
  have t1 := t h0 h1
  have t2 := t t1 h2
  have t3 := t t2 h3
  have t4 := t t3 h4
  exact ⟨e (t t4 h5), e t1, e h0, e t3, e t2, e t4⟩
theorem nd8 {f cp cc lp lc c ct x : Addr} (hx : @LT.lt Nat instLTNat x ct) (h0 : @LT.lt Nat instLTNat ct cc) (h1 : @LT.lt Nat instLTNat cc cp) (h2 : @LT.lt Nat instLTNat cp lc) (h3 : @LT.lt Nat instLTNat lc lp) (h4 : @LT.lt Nat instLTNat lp c) (h5 : @LT.lt Nat instLTNat c f) : x ∉ [f, cp, cc, lp, lc, c, ct] := by
  have z := nd7 (Nat.lt_trans hx h0) h1 h2 h3 h4 h5
  intro h
  have : x ∈ [f, cp, cc, lp, lc, c] ∨ x = ct := by
    simp only [List.mem_cons, List.not_mem_nil, or_false] at h ⊢
    rcases h with h | h | h | h | h | h | h <;> simp [h]
  rcases this with h | h
  · exact z h
  · exact absurd h (Nat.ne_of_lt hx)
end Mine
end
section
open PySem PySem.W PyProof.Rows PySem.SeqAt
set_option Elab.async false
set_option maxRecDepth 100000
namespace Mine
variable {κ : Kx} {Γ : Gx} {meths : List (PySem.Str × Addr)} {d : Nat} {env : Env} {vars : List (PySem.Str × Loc)}
theorem lenS {α : Type} {l : List α} {n : Nat} (h : l.length = n + 1) : ∃ a r, l = a :: r ∧ r.length = n := by
  cases l with
  | nil => cases h
  | cons a r => exact ⟨a, r, rfl, Nat.succ.inj h⟩
theorem len1 {α : Type} {l : List α} (h : l.length = 1) : ∃ a, l = [a] := by
  obtain ⟨a, r, rfl, h1⟩ := lenS h
  exact ⟨a, by rw [List.eq_nil_of_length_eq_zero h1]⟩
theorem len2 {α : Type} {l : List α} (h : l.length = 2) : ∃ a b, l = [a, b] := by
  obtain ⟨a, r, rfl, h1⟩ := lenS h
  obtain ⟨b, rfl⟩ := len1 h1
  exact ⟨a, b, rfl⟩
theorem len3 {α : Type} {l : List α} (h : l.length = 3) : ∃ a b c, l = [a, b, c] := by
  obtain ⟨a, r, rfl, h1⟩ := lenS h
  obtain ⟨b, c, rfl⟩ := len2 h1
  exact ⟨a, b, c, rfl⟩
theorem len4 {α : Type} {l : List α} (h : l.length = 4) : ∃ a b c d, l = [a, b, c, d] := by
  obtain ⟨a, r, rfl, h1⟩ := lenS h
  obtain ⟨b, c, d, rfl⟩ := len3 h1
  exact ⟨a, b, c, d, rfl⟩
theorem len5 {α : Type} {l : List α} (h : l.length = 5) : ∃ a b c d e, l = [a, b, c, d, e] := by
  obtain ⟨a, r, rfl, h1⟩ := lenS h
  obtain ⟨b, c, d, e, rfl⟩ := len4 h1
  exact ⟨a, b, c, d, e, rfl⟩
theorem len9 {α : Type} {l : List α} (h : l.length = 9) : ∃ a b c d e f g i j, l = [a, b, c, d, e, f, g, i, j] := by
  obtain ⟨a, r, rfl, h1⟩ := lenS h
  obtain ⟨b, r, rfl, h2⟩ := lenS h1
  obtain ⟨c, r, rfl, h3⟩ := lenS h2
  obtain ⟨d, r, rfl, h4⟩ := lenS h3
  obtain ⟨e, f, g, i, j, rfl⟩ := len5 h4
  exact ⟨a, b, c, d, e, f, g, i, j, rfl⟩
end Mine
end
section
open PySem
set_option Elab.async false
set_option maxRecDepth 100000
namespace Mine
section
variable {Γ : Gx} {ε : Env0} {σ : Sto}
theorem e_var {i : Nat} {q : Post} : wpE Γ (.var i) q ε σ = ∃ x, ε[i]? = some (some x) ∧ q x σ := rfl
theorem e_none {q : Post} : wpE Γ .none q ε σ = q .none σ := rfl
theorem e_bool {b : Bool} {q : Post} : wpE Γ (.bool b) q ε σ = q (.bool b) σ := rfl
theorem e_int {i : Int} {q : Post} : wpE Γ (.int i) q ε σ = q (.int i) σ := rfl
theorem e_str {x : PySem.Str} {q : Post} : wpE Γ (.str x) q ε σ = q (.str x) σ := rfl
theorem e_bytes {x : List UInt8} {q : Post} : wpE Γ (.bytes x) q ε σ = q (.bytes x.toArray) σ := rfl
theorem e_glob {a : Addr} {q : Post} : wpE Γ (.glob a) q ε σ = q (.ref a) σ := rfl
theorem e_attr {e : PE} {i : Nat} {q : Post} : wpE Γ (.attr e i) q ε σ = wpE Γ e (fun v σ' => ∃ a fs x, v = .ref a ∧ σ' a = some (.inst Γ.cls fs) ∧ fs[i]? = some x ∧ q x σ') ε σ := rfl
theorem e_list {es : PEs} {q : Post} : wpE Γ (.list es) q ε σ = wpEs Γ es (fun xs σ' => ∀ l, New Γ σ' l → q (.ref l) (σ'.set l (.list true xs))) ε σ := rfl
theorem e_tup {es : PEs} {q : Post} : wpE Γ (.tup es) q ε σ = wpEs Γ es (fun xs σ' => ∀ l, New Γ σ' l → q (.ref l) (σ'.set l (.tup xs))) ε σ := rfl
theorem e_dict {es : PEs} {q : Post} : wpE Γ (.dict es) q ε σ = wpDs Γ es (fun ps σ' => ∀ l, New Γ σ' l → ∀ ep, q (.ref l) (σ'.set l (.dict (ps.foldl (fun es p => putE p.1 p.2 es) []) ep))) ε σ := rfl
theorem e_ite {c : PC} {a b : PE} {q : Post} : wpE Γ (.ite c a b) q ε σ = wpC Γ c (fun t σ' => if t then wpE Γ a q ε σ' else wpE Γ b q ε σ') ε σ := rfl
theorem e_add {a b : PE} {q : Post} : wpE Γ (.add a b) q ε σ = wpE Γ a (fun x σ' => wpE Γ b (fun y σ'' => addW Γ x y q σ'') ε σ') ε σ := rfl
theorem e_cmp {op : Op} {a b : PE} {q : Post} : wpE Γ (.cmp op a b) q ε σ = wpE Γ a (fun x σ' => wpE Γ b (fun y σ'' => opW Γ op x y (fun t => q (.bool t)) σ'') ε σ') ε σ := rfl
theorem e_and {a b : PE} {q : Post} : wpE Γ (.and a b) q ε σ = wpE Γ a (fun x σ' => ∃ t, truV (look Γ σ') x = some t ∧ if t then wpE Γ b q ε σ' else q x σ') ε σ := rfl
theorem e_sub {a i : PE} {q : Post} : wpE Γ (.sub a i) q ε σ = wpE Γ a (fun x σ' => wpE Γ i (fun y σ'' => subW Γ x y q σ'') ε σ') ε σ := rfl
theorem e_fn {f : Addr} {args : PEs} {q : Post} : wpE Γ (.fn f args) q ε σ = wpEs Γ args (fun xs σ' => Γ.fn f xs q σ') ε σ := rfl
theorem e_bi {f : BI} {e : PE} {q : Post} : wpE Γ (.bi f e) q ε σ = wpE Γ e (fun x σ' => biW Γ f x q σ') ε σ := rfl
theorem e_take {e n : PE} {q : Post} : wpE Γ (.take e n) q ε σ = wpE Γ e (fun x σ' => wpE Γ n (fun y σ'' => takeW x y q σ'') ε σ') ε σ := rfl
theorem e_meth {e : PE} {n : Nat} {args : PEs} {q : Post} : wpE Γ (.meth e n args) q ε σ = wpE Γ e (fun x σ' => (∃ a fs, x = .ref a ∧ σ' a = some (.inst Γ.cls fs)) ∧ wpEs Γ args (fun xs σ'' => Γ.fn (Γ.meth n) (x :: xs) q σ'') ε σ') ε σ := rfl
theorem e_bm {e : PE} {n : BM} {args : PEs} {q : Post} : wpE Γ (.bm e n args) q ε σ = wpE Γ e (fun x σ' => bmOn n x σ' ∧ wpEs Γ args (fun xs σ'' => bmW Γ n x xs q σ'') ε σ') ε σ := rfl
theorem e_comp {elt it : PE} {t : Nat} {c : PC} {q : Post} : wpE Γ (.comp elt t it c) q ε σ = wpE Γ it (fun v σ' => ∃ a src xs, v = .ref a ∧ look Γ σ' a = some src ∧ itemsOf src = some xs ∧ xs.length ≤ 1000 ∧
      goComp Γ (wpE Γ elt) (wpC Γ c) t a src (fun ys σ'' => ∀ l, New Γ σ'' l → q (.ref l) (σ''.set l (.list true ys))) xs [] (ε ++ [none]) σ') ε σ := rfl
theorem es_nil {q : List V → Sto → Prop} : wpEs Γ .nil q ε σ = q [] σ := rfl
theorem es_cons {e : PE} {r : PEs} {q : List V → Sto → Prop} : wpEs Γ (.cons e r) q ε σ = wpE Γ e (fun x σ' => wpEs Γ r (fun xs σ'' => q (x :: xs) σ'') ε σ') ε σ := rfl
theorem ds_nil {q : List (Int × V) → Sto → Prop} : wpDs Γ .nil q ε σ = q [] σ := rfl
theorem ds_cons {k e : PE} {r : PEs} {q : List (Int × V) → Sto → Prop} : wpDs Γ (.cons k (.cons e r)) q ε σ = wpE Γ k (fun y σ' => ∃ i, y = .int i ∧ wpE Γ e (fun x σ'' => wpDs Γ r (fun ps σ₃ => q ((i, x) :: ps) σ₃) ε σ'') ε σ') ε σ := rfl
theorem c_tru {q : Bool → Sto → Prop} : wpC Γ .tru q ε σ = q true σ := rfl
theorem c_not {c : PC} {q : Bool → Sto → Prop} : wpC Γ (.not c) q ε σ = wpC Γ c (fun t => q (!t)) ε σ := rfl
theorem c_and {a b : PC} {q : Bool → Sto → Prop} : wpC Γ (.and a b) q ε σ = wpC Γ a (fun t σ' => if t then wpC Γ b q ε σ' else q false σ') ε σ := rfl
theorem c_or {a b : PC} {q : Bool → Sto → Prop} : wpC Γ (.or a b) q ε σ = wpC Γ a (fun t σ' => if t then q true σ' else wpC Γ b q ε σ') ε σ := rfl
theorem c_cmp {op : Op} {a b : PE} {q : Bool → Sto → Prop} : wpC Γ (.cmp op a b) q ε σ = wpE Γ a (fun x σ' => wpE Γ b (fun y σ'' => opW Γ op x y q σ'') ε σ') ε σ := rfl
theorem c_chain {a b c : PE} {o1 o2 : Op} {q : Bool → Sto → Prop} : wpC Γ (.chain a o1 b o2 c) q ε σ = wpE Γ a (fun x σ' => wpE Γ b (fun y σ'' => opW Γ o1 x y (fun t σ₃ => if t then wpE Γ c (fun z σ₄ => opW Γ o2 y z q σ₄) ε σ₃ else q false σ₃) σ'') ε σ') ε σ := rfl
theorem c_val {e : PE} {q : Bool → Sto → Prop} : wpC Γ (.val e) q ε σ = wpE Γ e (fun x σ' => ∃ t, truV (look Γ σ') x = some t ∧ q t σ') ε σ := rfl
theorem t_var {i : Nat} {x : V} {q : PostE} : wpT Γ (.var i) x q ε σ = (i < ε.length ∧ q (ε.set i (some x)) σ) := rfl
theorem t_attr {e : PE} {i : Nat} {x : V} {q : PostE} : wpT Γ (.attr e i) x q ε σ = wpE Γ e (fun v σ' => ∃ a fs, v = .ref a ∧ σ' a = some (.inst Γ.cls fs) ∧ i ≤ fs.length ∧ q ε (σ'.set a (.inst Γ.cls (putF fs i x)))) ε σ := rfl
theorem t_sub {e i : PE} {x : V} {q : PostE} : wpT Γ (.sub e i) x q ε σ = wpE Γ e (fun v σ' => wpE Γ i (fun k σ'' => ∃ a j es ep, v = .ref a ∧ k = .int j ∧ σ'' a = some (.dict es ep) ∧ es.length ≤ 10000 ∧ ∀ ep', q ε (σ''.set a (.dict (putE j x es) ep'))) ε σ') ε σ := rfl
theorem t_tup {ts : PTs} {x : V} {q : PostE} : wpT Γ (.tup ts) x q ε σ = ∃ a xs, x = .ref a ∧ look Γ σ a = some (.tup xs) ∧ xs.length = ptsLen ts ∧ wpTs Γ ts xs q ε σ := rfl
theorem t_rev {is : List Nat} {x : V} {q : PostE} : wpT Γ (.rev is) x q ε σ = ∃ a xs, x = .ref a ∧ look Γ σ a = some (.tup xs) ∧ xs.length = is.length ∧ q (setAll is.reverse xs.reverse ε) σ := rfl
theorem ts_nil {xs : List V} {q : PostE} : wpTs Γ .nil xs q ε σ = (xs = [] ∧ q ε σ) := rfl
theorem ts_cons {t : PT} {r : PTs} {xs : List V} {q : PostE} : wpTs Γ (.cons t r) xs q ε σ = ∃ x xr, xs = x :: xr ∧ wpT Γ t x (fun ε' σ' => wpTs Γ r xr q ε' σ') ε σ := rfl
theorem s_fail {q : PostF} : wpS Γ .fail q ε σ = False := rfl
theorem s_expr {e : PE} {q : PostF} : wpS Γ (.expr e) q ε σ = wpE Γ e (fun x σ' => (∀ a, x ≠ .ref a) ∧ q .next ε σ') ε σ := rfl
theorem s_asg {t : PT} {e : PE} {q : PostF} : wpS Γ (.asg t e) q ε σ = wpE Γ e (fun x σ' => wpT Γ t x (q .next) ε σ') ε σ := rfl
theorem s_ret {e : PE} {q : PostF} : wpS Γ (.ret e) q ε σ = wpE Γ e (fun x σ' => q (.ret x) ε σ') ε σ := rfl
theorem s_ite {c : PC} {a b : PSs} {q : PostF} : wpS Γ (.ite c a b) q ε σ = wpC Γ c (fun t σ' => if t then wpSs Γ a q ε σ' else wpSs Γ b q ε σ') ε σ := rfl
theorem s_for {t : PT} {it : PE} {b : PSs} {q : PostF} : wpS Γ (.for_ t it b) q ε σ = wpE Γ it (fun v σ' => ∃ a src xs, v = .ref a ∧ look Γ σ' a = some src ∧ itemsOf src = some xs ∧ xs.length ≤ 100000 ∧ goFor Γ (wpT Γ t) (wpSs Γ b) a src q xs ε σ') ε σ := rfl
theorem s_while {c : PC} {b : PSs} {q : PostF} : wpS Γ (.while_ c b) q ε σ = ∃ n, goWhile (wpC Γ c) (wpSs Γ b) q n ε σ := rfl
theorem ss_nil_ {q : PostF} : wpSs Γ .nil q ε σ = q .next ε σ := rfl
theorem ss_cons_ {s : PS} {r : PSs} {q : PostF} : wpSs Γ (.cons s r) q ε σ = wpS Γ s (fun f ε' σ' => match f with
      | .next => wpSs Γ r q ε' σ'
      | f => q f ε' σ') ε σ := rfl
end
end Mine
end
section
open PySem
set_option Elab.async false
set_option maxRecDepth 100000
namespace Mine
@[reducible] noncomputable def b_least_from : PSs := .cons (.for_ (.var 2) (.bi .sorted (.var 0)) (.cons (.ite (.cmp .ge (.var 2) (.var 1)) (.cons (.ret (.var 2)) .nil) (.nil)) .nil)) (.cons (.ret (.int 0)) .nil)
@[reducible] noncomputable def b_init : PSs := .cons (.asg (.attr (.var 0) 0) (.var 1)) (.cons (.asg (.attr (.var 0) 1) (.var 2)) (.cons (.asg (.attr (.var 0) 2) (.var 3)) (.cons (.asg (.attr (.var 0) 3) (.var 4)) (.cons (.asg (.attr (.var 0) 4) (.int 1)) (.cons (.asg (.attr (.var 0) 5) (.bool false)) (.cons (.asg (.attr (.var 0) 6) (.bool true)) (.cons (.asg (.attr (.var 0) 7) (.int 0)) (.cons (.ite (.cmp .eq (.var 2) (.str "extend")) (.cons (.expr (.meth (.var 0) 0 (.cons (.tup (.cons (.str "sequential") .nil)) (.cons (.str "EXTEND") .nil)))) .nil) (.nil)) (.cons (.ite (.cmp .eq (.var 2) (.str "output")) (.cons (.expr (.bm (.var 1) .clear (.nil))) .nil) (.nil)) (.cons (.asg (.attr (.var 0) 8) (.ite (.and (.cmp .eq (.var 2) (.str "extend")) (.val (.var 1))) (.bi .max (.var 1)) (.int 0))) .nil))))))))))
@[reducible] noncomputable def b_need : PSs := .cons (.ite (.cmp .notIn (.attr (.var 0) 2) (.var 1)) (.cons (.fail) .nil) (.nil)) .nil
@[reducible] noncomputable def b_failed : PSs := .cons (.asg (.attr (.var 0) 6) (.bool false)) (.cons (.ret (.tup (.cons (.var 1) (.cons (.bytes []) .nil)))) .nil)
@[reducible] noncomputable def b_found : PSs := .cons (.asg (.attr (.var 0) 4) (.var 1)) (.cons (.asg (.attr (.var 0) 5) (.bool true)) (.cons (.asg (.attr (.var 0) 6) (.bool true)) (.cons (.asg (.attr (.var 0) 7) (.var 1)) (.cons (.asg (.attr (.var 0) 8) (.var 1)) (.cons (.ret (.tup (.cons (.str "00") (.cons (.sub (.attr (.var 0) 0) (.var 1)) .nil)))) .nil)))))
@[reducible] noncomputable def b_read_next : PSs := .cons (.expr (.meth (.var 0) 0 (.cons (.glob 63) (.cons (.str "READ NEXT") .nil)))) (.cons (.asg (.attr (.var 0) 7) (.int 0)) (.cons (.ite (.cmp .notIn (.attr (.var 0) 1) (.tup (.cons (.str "input") (.cons (.str "i-o") .nil)))) (.cons (.ret (.tup (.cons (.str "47") (.cons (.bytes []) .nil)))) .nil) (.nil)) (.cons (.ite (.not (.val (.attr (.var 0) 6))) (.cons (.ret (.tup (.cons (.str "46") (.cons (.bytes []) .nil)))) .nil) (.nil)) (.cons (.asg (.var 1) (.fn 70 (.cons (.attr (.var 0) 0) (.cons (.ite (.val (.attr (.var 0) 5)) (.add (.attr (.var 0) 4) (.int 1)) (.attr (.var 0) 4)) .nil)))) (.cons (.ite (.cmp .eq (.var 1) (.int 0)) (.cons (.ret (.meth (.var 0) 1 (.cons (.str "10") .nil))) .nil) (.nil)) (.cons (.ite (.chain (.int 0) .lt (.attr (.var 0) 3) .lt (.var 1)) (.cons (.ret (.meth (.var 0) 1 (.cons (.str "14") .nil))) .nil) (.nil)) (.cons (.ret (.meth (.var 0) 2 (.cons (.var 1) .nil))) .nil)))))))
@[reducible] noncomputable def b_write : PSs := .cons (.asg (.attr (.var 0) 7) (.int 0)) (.cons (.ite (.cmp .eq (.attr (.var 0) 2) (.str "sequential")) (.cons (.ite (.cmp .notIn (.attr (.var 0) 1) (.tup (.cons (.str "output") (.cons (.str "extend") .nil)))) (.cons (.ret (.str "48")) .nil) (.nil)) (.cons (.asg (.var 2) (.add (.attr (.var 0) 8) (.int 1))) .nil)) (.cons (.ite (.cmp .notIn (.attr (.var 0) 1) (.tup (.cons (.str "output") (.cons (.str "i-o") .nil)))) (.cons (.ret (.str "48")) .nil) (.nil)) .nil)) (.cons (.ite (.or (.cmp .lt (.var 2) (.int 1)) (.chain (.int 0) .lt (.attr (.var 0) 3) .lt (.var 2))) (.cons (.ret (.str "24")) .nil) (.nil)) (.cons (.ite (.cmp .isIn (.var 2) (.attr (.var 0) 0)) (.cons (.ret (.str "22")) .nil) (.nil)) (.cons (.asg (.sub (.attr (.var 0) 0) (.var 2)) (.bi .bytes (.var 1))) (.cons (.asg (.attr (.var 0) 8) (.var 2)) (.cons (.ret (.str "00")) .nil))))))
@[reducible] noncomputable def b_chosen : PSs := .cons (.asg (.var 2) (.attr (.var 0) 7)) (.cons (.asg (.attr (.var 0) 7) (.int 0)) (.cons (.ite (.cmp .ne (.attr (.var 0) 1) (.str "i-o")) (.cons (.ret (.tup (.cons (.str "49") (.cons (.int 0) .nil)))) .nil) (.nil)) (.cons (.ite (.cmp .eq (.attr (.var 0) 2) (.str "sequential")) (.cons (.ret (.ite (.cmp .gt (.var 2) (.int 0)) (.tup (.cons (.str "00") (.cons (.var 2) .nil))) (.tup (.cons (.str "43") (.cons (.int 0) .nil))))) .nil) (.nil)) (.cons (.ret (.ite (.cmp .isIn (.var 1) (.attr (.var 0) 0)) (.tup (.cons (.str "00") (.cons (.var 1) .nil))) (.tup (.cons (.str "23") (.cons (.int 0) .nil))))) .nil))))
@[reducible] noncomputable def b_rewrite : PSs := .cons (.asg (.tup (.cons (.var 3) (.cons (.var 4) .nil))) (.meth (.var 0) 5 (.cons (.var 2) .nil))) (.cons (.ite (.cmp .eq (.var 3) (.str "00")) (.cons (.asg (.sub (.attr (.var 0) 0) (.var 4)) (.bi .bytes (.var 1))) (.cons (.asg (.attr (.var 0) 8) (.var 4)) .nil)) (.nil)) (.cons (.ret (.var 3)) .nil))
@[reducible] noncomputable def b_delete : PSs := .cons (.asg (.tup (.cons (.var 2) (.cons (.var 3) .nil))) (.meth (.var 0) 5 (.cons (.var 1) .nil))) (.cons (.ite (.cmp .eq (.var 2) (.str "00")) (.cons (.expr (.bm (.attr (.var 0) 0) .popD (.cons (.var 3) .nil))) .nil) (.nil)) (.cons (.ret (.var 2)) .nil))
@[reducible] noncomputable def b_law_swept : PSs := .cons (.asg (.rev [2, 3, 4]) (.tup (.cons (.fn 166 (.cons (.var 0) (.cons (.str "i-o") (.cons (.str "sequential") .nil)))) (.cons (.list (.nil)) (.cons (.list (.nil)) .nil))))) (.cons (.ite (.cmp .ne (.meth (.var 2) 7 (.nil)) (.str "43")) (.cons (.expr (.bm (.var 4) .append (.cons (.str "early") .nil))) .nil) (.nil)) (.cons (.asg (.tup (.cons (.var 5) (.cons (.var 6) .nil))) (.meth (.var 2) 3 (.nil))) (.cons (.while_ (.cmp .eq (.var 5) (.str "00")) (.cons (.ite (.cmp .isIn (.attr (.var 2) 8) (.var 1)) (.cons (.expr (.bm (.var 3) .append (.cons (.tup (.cons (.attr (.var 2) 8) (.cons (.meth (.var 2) 7 (.nil)) .nil))) .nil))) (.cons (.ite (.or (.cmp .ne (.meth (.var 2) 7 (.nil)) (.str "43")) (.cmp .ne (.meth (.var 2) 6 (.cons (.bytes [103, 111, 110, 101]) .nil)) (.str "43"))) (.cons (.expr (.bm (.var 4) .append (.cons (.attr (.var 2) 8) .nil))) .nil) (.nil)) .nil)) (.nil)) (.cons (.asg (.tup (.cons (.var 5) (.cons (.var 6) .nil))) (.meth (.var 2) 3 (.nil))) .nil))) (.cons (.ret (.tup (.cons (.var 3) (.cons (.var 4) (.cons (.var 5) .nil))))) .nil))))
@[reducible] noncomputable def b_law_emptied : PSs := .cons (.asg (.var 2) (.fn 166 (.cons (.var 0) (.cons (.str "i-o") (.cons (.str "random") .nil))))) (.cons (.ret (.comp (.meth (.var 2) 7 (.cons (.var 3) .nil)) 3 (.var 1) (.tru))) .nil)
@[reducible] noncomputable def b_law_met : PSs := .cons (.asg (.rev [2, 3]) (.tup (.cons (.fn 166 (.cons (.var 0) (.cons (.str "i-o") (.cons (.str "dynamic") .nil)))) (.cons (.list (.nil)) .nil)))) (.cons (.for_ (.tup (.cons (.var 4) (.cons (.var 5) .nil))) (.var 1) (.cons (.ite (.cmp .eq (.var 4) (.str "next")) (.cons (.expr (.bm (.var 3) .append (.cons (.tup (.cons (.sub (.meth (.var 2) 3 (.nil)) (.int 0)) (.cons (.attr (.var 2) 8) .nil))) .nil))) .nil) (.cons (.ite (.cmp .eq (.var 4) (.str "delete")) (.cons (.expr (.bm (.var 3) .append (.cons (.meth (.var 2) 7 (.cons (.var 5) .nil)) .nil))) .nil) (.cons (.expr (.bm (.var 3) .append (.cons (.meth (.var 2) 4 (.cons (.bytes [97, 110, 101, 119]) (.cons (.var 5) .nil))) .nil))) .nil)) .nil)) .nil)) (.cons (.ret (.var 3)) .nil))
@[reducible] noncomputable def b_law_met_due : PSs := .cons (.asg (.tup (.cons (.var 2) (.cons (.var 3) (.cons (.var 4) (.cons (.var 5) .nil))))) (.tup (.cons (.bi .sorted (.var 0)) (.cons (.int 0) (.cons (.int 0) (.cons (.list (.nil)) .nil)))))) (.cons (.for_ (.tup (.cons (.var 6) (.cons (.var 7) .nil))) (.var 1) (.cons (.ite (.cmp .eq (.var 6) (.str "next")) (.cons (.asg (.var 8) (.comp (.var 10) 10 (.bi .sorted (.var 2)) (.and (.cmp .isNot (.var 3) (.none)) (.cmp .gt (.var 10) (.var 3))))) (.cons (.asg (.var 9) (.ite (.cmp .ne (.var 8) (.list (.nil))) (.str "00") (.ite (.cmp .is (.var 3) (.none)) (.str "46") (.str "10")))) (.cons (.asg (.var 3) (.ite (.cmp .ne (.var 8) (.list (.nil))) (.sub (.var 8) (.int 0)) (.none))) (.cons (.asg (.var 4) (.ite (.cmp .isNot (.var 3) (.none)) (.var 3) (.var 4))) (.cons (.expr (.bm (.var 5) .append (.cons (.tup (.cons (.var 9) (.cons (.var 4) .nil))) .nil))) .nil))))) (.cons (.ite (.cmp .eq (.var 6) (.str "delete")) (.cons (.expr (.bm (.var 5) .append (.cons (.ite (.cmp .isIn (.var 7) (.var 2)) (.str "00") (.str "23")) .nil))) (.cons (.asg (.var 2) (.comp (.var 10) 10 (.var 2) (.cmp .ne (.var 10) (.var 7)))) .nil)) (.cons (.expr (.bm (.var 5) .append (.cons (.ite (.cmp .isIn (.var 7) (.var 2)) (.str "22") (.str "00")) .nil))) (.cons (.asg (.var 4) (.ite (.cmp .isIn (.var 7) (.var 2)) (.var 4) (.var 7))) (.cons (.asg (.var 2) (.add (.var 2) (.ite (.cmp .isIn (.var 7) (.var 2)) (.list (.nil)) (.list (.cons (.var 7) .nil))))) .nil)))) .nil)) .nil)) (.cons (.ret (.tup (.cons (.var 5) (.cons (.bi .sorted (.var 2)) .nil)))) .nil))
@[reducible] noncomputable def b_law_right : PSs := .cons (.asg (.rev [2, 3]) (.tup (.cons (.bi .dict (.var 0)) (.cons (.bi .dict (.var 0)) .nil)))) (.cons (.asg (.var 4) (.bi .dict (.comp (.tup (.cons (.var 7) (.cons (.sub (.var 0) (.var 7)) .nil))) 7 (.var 0) (.cmp .notIn (.var 7) (.var 1))))) (.cons (.asg (.var 5) (.comp (.tup (.cons (.var 7) (.cons (.str "00") .nil))) 7 (.bi .sorted (.var 0)) (.cmp .isIn (.var 7) (.var 1)))) (.cons (.ite (.or (.cmp .ne (.fn 206 (.cons (.var 2) (.cons (.var 1) .nil))) (.tup (.cons (.var 5) (.cons (.list (.nil)) (.cons (.str "10") .nil))))) (.cmp .ne (.var 2) (.var 4))) (.cons (.ret (.bool false)) .nil) (.nil)) (.cons (.asg (.var 6) (.compE (.ite (.and (.cmp .isIn (.var 8) (.var 0)) (.cmp .notIn (.var 8) (.upto (.var 1) (.var 7)))) (.str "00") (.str "23")) 7 (.var 1))) (.cons (.ret (.and (.cmp .eq (.fn 211 (.cons (.var 3) (.cons (.var 1) .nil))) (.var 6)) (.cmp .eq (.var 3) (.var 4)))) .nil)))))
@[reducible] noncomputable def l1meths : List (PySem.Str × Addr) := [("need", 92), ("failed", 99), ("found", 106), ("read_next", 113), ("write", 135), ("chosen", 142), ("rewrite", 150), ("delete", 158)]
@[reducible] noncomputable def l1stat : List (Addr × AO) := [(63, .tup [.str "sequential", .str "dynamic"]), (171, .tup [.str "next", .int 0]), (172, .tup [.str "delete", .int 2]), (173, .tup [.str "next", .int 0]), (174, .tup [.str "delete", .int 7]), (175, .tup [.str "write", .int 2]), (176, .tup [.str "write", .int 4]), (177, .tup [.str "next", .int 0]), (178, .tup [.str "delete", .int 4]), (179, .tup [.str "delete", .int 4]), (180, .tup [.str "write", .int 6]), (181, .tup [.str "write", .int 6]), (182, .tup [.str "next", .int 0]), (183, .tup [.str "next", .int 0]), (184, .tup [.str "next", .int 0]), (185, .tup [.ref 171, .ref 172, .ref 173, .ref 174, .ref 175, .ref 176, .ref 177, .ref 178, .ref 179, .ref 180, .ref 181, .ref 182, .ref 183, .ref 184]), (186, .tup [.str "00", .int 2]), (187, .tup [.str "00", .int 3]), (188, .tup [.str "00", .int 4]), (189, .tup [.str "00", .int 6]), (190, .tup [.str "10", .int 6]), (191, .tup [.str "46", .int 6]), (192, .tup [.ref 186, .str "00", .ref 187, .str "00", .str "00", .str "00", .ref 188, .str "00", .str "23", .str "00", .str "22", .ref 189, .ref 190, .ref 191])]
@[reducible] noncomputable def l1tab : List (Addr × TE) := [(70, .fn b_least_from 3 2 []), (85, .fn b_init 5 5 [.int 0]), (92, .fn b_need 3 3 []), (99, .fn b_failed 2 2 []), (106, .fn b_found 2 2 []), (113, .fn b_read_next 2 1 []), (135, .fn b_write 3 3 [.int 0]), (142, .fn b_chosen 3 2 []), (150, .fn b_rewrite 5 3 [.int 0]), (158, .fn b_delete 4 2 [.int 0]), (206, .fn b_law_swept 7 2 []), (211, .fn b_law_emptied 3 2 []), (218, .fn b_law_met 6 2 []), (223, .fn b_law_met_due 10 2 []), (228, .fn b_law_right 7 2 []), (166, .cls 85)]
@[reducible] noncomputable def P1 : Px := ⟨fun a => l1stat.lookup a, 166, fun i => ((l1meths[i]?).map (·.2)).getD 0, fun a => l1tab.lookup a⟩
@[reducible] noncomputable def b_law : PSs := .cons (.asg (.var 2) (.dict (.cons (.int 2) (.cons (.bytes [98]) (.cons (.int 3) (.cons (.bytes [99]) (.cons (.int 7) (.cons (.bytes [103]) .nil)))))))) (.cons (.ite (.or (.not (.val (.fn 228 (.cons (.var 2) (.cons (.list (.cons (.int 7) (.cons (.int 1) (.cons (.int 2) (.cons (.int 7) .nil))))) .nil))))) (.cmp .ne (.fn 218 (.cons (.bi .dict (.var 2)) (.cons (.glob 185) .nil))) (.bi .list (.glob 192)))) (.cons (.ret (.bool false)) .nil) (.nil)) (.cons (.ite (.cmp .ne (.fn 223 (.cons (.var 2) (.cons (.glob 185) .nil))) (.tup (.cons (.bi .list (.glob 192)) (.cons (.list (.cons (.int 2) (.cons (.int 3) (.cons (.int 6) .nil)))) .nil)))) (.cons (.ret (.bool false)) .nil) (.nil)) (.cons (.asg (.var 3) (.dict .nil)) (.cons (.for_ (.var 4) (.bi .range (.take (.var 1) (.int 8))) (.cons (.asg (.sub (.var 3) (.add (.int 1) (.take (.var 1) (.int 9)))) (.bi .bytes (.comp (.take (.var 1) (.int 256)) 9 (.bi .range (.take (.var 1) (.int 3))) (.tru)))) .nil)) (.cons (.ite (.not (.val (.fn 228 (.cons (.var 3) (.cons (.comp (.add (.int 1) (.take (.var 1) (.int 9))) 9 (.bi .range (.take (.var 1) (.int 7))) (.tru)) .nil))))) (.cons (.ret (.bool false)) .nil) (.nil)) (.cons (.asg (.var 5) (.comp (.tup (.cons (.sub (.tup (.cons (.str "next") (.cons (.str "delete") (.cons (.str "next") (.cons (.str "write") .nil))))) (.take (.var 1) (.int 4))) (.cons (.add (.int 1) (.take (.var 1) (.int 9))) .nil))) 9 (.bi .range (.take (.var 1) (.int 15))) (.tru))) (.cons (.asg (.var 6) (.bi .dict (.var 3))) (.cons (.asg (.tup (.cons (.var 7) (.cons (.var 8) .nil))) (.fn 223 (.cons (.var 3) (.cons (.var 5) .nil)))) (.cons (.ret (.and (.cmp .eq (.fn 218 (.cons (.var 6) (.cons (.var 5) .nil))) (.var 7)) (.cmp .eq (.bi .sorted (.var 6)) (.var 8)))) .nil)))))))))
@[reducible] noncomputable def l1vs : List (PySem.Str × Kind) := [("script", .loc), ("take", .cell), ("written", .loc), ("rows", .loc), ("turn", .loc), ("deeds", .loc), ("content", .loc), ("due", .loc), ("there", .loc)]
end Mine
end
section
open PySem
set_option Elab.async false
set_option maxRecDepth 100000
namespace Mine
noncomputable def Keep (X : List Addr) (σ σ' : Sto) : Prop := ∀ a o, a ∉ X → σ a = some o → σ' a = some o
theorem Keep.refl (X : List Addr) (σ : Sto) : Keep X σ σ := fun _ _ _ e => e
theorem Keep.trans {X : List Addr} {σ σ' σ'' : Sto} (x : Keep X σ σ') (y : Keep X σ' σ'') : Keep X σ σ'' := fun a o h e => y a o h (x a o h e)
theorem Keep.weak {X : List Addr} {σ σ' : Sto} (x : Keep [] σ σ') : Keep X σ σ' := fun a o _ e => x a o (fun h => nomatch h) e
theorem Keep.new {X : List Addr} {σ : Sto} {l : Addr} {o : AO} (h : σ l = none) : Keep X σ (σ.set l o) := fun a o' _ e => by
  rw [Sto.set_ne]; exact e
  intro z; subst z; rw [h] at e; cases e
variable {n : Nat} {σ : Sto}
theorem look_dyn {a : Addr} (h : P1.stat a = none) : look (P1.gx n) σ a = σ a := by
  unfold look
  show (match P1.stat a with | some o => some o | none => σ a) = _
  rw [h]
noncomputable def leastF : List Int → Int → Int
  | [], _ => 0
  | k :: r, low => if low ≤ k then k else leastF r low
theorem leastF_cons (k : Int) (r : List Int) (low : Int) : leastF (k :: r) low = if low ≤ k then k else leastF r low := rfl
theorem intsOf_map' (ks : List Int) : intsOf (ks.map V.int) = some ks := by
  induction ks with
  | nil => rfl
  | cons k ks ih => show (intsOf (ks.map .int)).map (k :: ·) = _; rw [ih]; rfl
theorem keys_ints (es : List (Int × V)) : intsOf (es.map fun p => V.int p.1) = some (es.map (·.1)) := by
  have := intsOf_map' (es.map (·.1))
  rw [List.map_map] at this
  exact this
theorem sp_least {c : Addr} {es : List (Int × V)} {ep : Nat} {low : Int} {q : Post} (hc : σ c = some (.dict es ep)) (hd : P1.stat c = none) (hz : es.length ≤ 60)
    (h : ∀ σ', Keep [] σ σ' → q (.int (leastF (sortI (es.map (·.1))) low)) σ') : fnW P1 (n + 1) 70 [.ref c, .int low] q σ := by
  refine ⟨_, rfl, ?_⟩
  show wpSs (P1.gx n) b_least_from _ _ _
  simp only [ss_cons_, s_for, e_bi, e_var]
  refine ⟨.ref c, rfl, _, _, _, (look_dyn hd).trans hc, rfl, (fun _ => nofun), (fun _ => nofun), keys_ints es, by rw [List.length_map]; exact hz, fun l hl => ?_⟩
  have hls : P1.stat l = none := hl.2
  have hk : Keep [] σ (σ.set l (.list true ((sortI (es.map (·.1))).map .int))) := Keep.new hl.1
  have hlen : (sortI (es.map (·.1))).length ≤ 60 := by
    unfold sortI; rw [List.length_mergeSort, List.length_map]; exact hz
  refine ⟨l, _, _, rfl, (look_dyn hls).trans (Sto.set_self _ _ _), rfl, by rw [List.length_map]; omega, ?_⟩
  have hq := h _ hk
  generalize hτ : σ.set l (.list true ((sortI (es.map (·.1))).map .int)) = τ at *
  have hl2 : look (P1.gx n) τ l = some (.list true ((sortI (es.map (·.1))).map .int)) := by rw [look_dyn hls, ← hτ, Sto.set_self]
  clear h hτ hlen
  have key : ∀ (ks : List Int) (z : Option V), leastF ks low = leastF (sortI (es.map (·.1))) low →
      goFor (P1.gx n) (wpT (P1.gx n) (.var 2)) (wpSs (P1.gx n) (.cons (.ite (.cmp .ge (.var 2) (.var 1)) (.cons (.ret (.var 2)) .nil) .nil) .nil)) l (.list true ((sortI (es.map (·.1))).map .int))
        (fun f ε' σ' => match f with | .next => wpSs (P1.gx n) (.cons (.ret (.int 0)) .nil) (retW q) ε' σ' | f => retW q f ε' σ') (ks.map .int) [some (.ref c), some (.int low), z] τ := by
    intro ks
    induction ks with
    | nil =>
      intro z hz
      refine ⟨hl2, ?_⟩
      simp only [ss_cons_, s_ret, e_int]
      show q (.int 0) τ
      rw [← hz] at hq
      exact hq
    | cons k ks ih =>
      intro z hz
      refine ⟨hl2, by simp, ?_⟩
      simp only [ss_cons_, s_ite, c_cmp, e_var, List.set_cons_succ, List.set_cons_zero]
      refine ⟨.int k, rfl, .int low, rfl, ?_⟩
      show if decide (low ≤ k) = true then _ else _
      by_cases hlk : low ≤ k
      · rw [if_pos (by simpa using hlk)]
        simp only [ss_cons_, s_ret, e_var]
        refine ⟨.int k, rfl, ?_⟩
        show q (.int k) τ
        rw [leastF_cons] at hz
        rw [if_pos hlk] at hz
        rw [hz]; exact hq
      · rw [if_neg (by simpa using hlk)]
        simp only [ss_nil_]
        rw [leastF_cons] at hz
        rw [if_neg hlk] at hz
        exact ih (some (.int k)) hz
  exact key _ none rfl
structure Fil where
  mode : PySem.Str
  access : PySem.Str
  place : Int
  behind : Bool
  valid : Bool
  last : Int
  number : Int
noncomputable def Fil.vs (F : Fil) (c : Addr) : List V := [.ref c, .str F.mode, .str F.access, .int 0, .int F.place, .bool F.behind, .bool F.valid, .int F.last, .int F.number]
noncomputable def IsF (σ : Sto) (x c : Addr) (F : Fil) : Prop := σ x = some (.inst 166 (F.vs c))
theorem sp_need {x c t : Addr} {F : Fil} {what : PySem.Str} {q : Post} (hx : IsF σ x c F) (ht : P1.stat t = some (.tup [.str "sequential", .str "dynamic"])) (ha : F.access = "sequential" ∨ F.access = "dynamic") (h : q .none σ) :
    fnW P1 (n + 1) 92 [.ref x, .ref t, .str what] q σ := by
  refine ⟨_, rfl, ?_⟩
  show wpSs (P1.gx n) b_need _ _ _
  simp only [ss_cons_, s_ite, c_cmp, e_attr, e_var]
  refine ⟨.ref x, rfl, x, _, _, rfl, hx, rfl, .ref t, rfl, true, ?_, ?_⟩
  · have e : look (P1.gx n) σ t = some (.tup [.str "sequential", .str "dynamic"]) := by
      unfold look
      show (match P1.stat t with | some o => some o | none => σ t) = _
      rw [ht]
    show inV (look (P1.gx n) σ) (.str F.access) (.ref t) = some true
    unfold inV
    dsimp only
    rw [e]
    rcases ha with ha | ha <;> rw [ha] <;> decide +kernel
  · exact h
theorem sp_failed {x c : Addr} {F : Fil} {st : PySem.Str} {q : Post} (hx : IsF σ x c F) (hd : P1.stat x = none)
    (h : ∀ σ' t, IsF σ' x c { F with valid := false } → σ' t = some (.tup [.str st, .bytes #[]]) → P1.stat t = none → Keep [x] σ σ' → q (.ref t) σ') : fnW P1 (n + 1) 99 [.ref x, .str st] q σ := by
  refine ⟨_, rfl, ?_⟩
  show wpSs (P1.gx n) b_failed _ _ _
  simp only [ss_cons_, s_asg, e_bool, t_attr, e_var]
  refine ⟨.ref x, rfl, x, _, rfl, hx, by simp [Fil.vs], ?_⟩
  simp only [ss_cons_, s_ret, e_tup, es_cons, es_nil, e_var, e_bytes]
  refine ⟨.str st, rfl, fun l hl => ?_⟩
  have hx1 : (σ.set x (.inst (P1.gx n).cls (putF (F.vs c) 6 (.bool false)))) x = some (.inst 166 (Fil.vs { F with valid := false } c)) := Sto.set_self _ _ _
  have hlx : x ≠ l := fun z => by have := hl.1; rw [← z, hx1] at this; cases this
  refine h _ l ?_ (Sto.set_self _ _ _) hl.2 fun a o ha e => ?_
  · show (Sto.set _ l _) x = _
    rw [Sto.set_ne _ _ hlx]; exact hx1
  · have hax : a ≠ x := by simpa using ha
    have e1 : (σ.set x (.inst (P1.gx n).cls (putF (F.vs c) 6 (.bool false)))) a = some o := by rw [Sto.set_ne _ _ hax]; exact e
    rw [Sto.set_ne _ _ (fun z => by have := hl.1; rw [← z, e1] at this; cases this)]
    exact e1
end Mine
end
section
open PySem
set_option Elab.async false
set_option maxRecDepth 100000
namespace Mine
variable {n : Nat} {σ : Sto} {ε : Env0}
theorem Sto.set_set (σ : Sto) (a : Addr) (o o' : AO) : (σ.set a o).set a o' = σ.set a o' := by
  funext b; unfold Sto.set; by_cases h : b = a <;> simp [h]
theorem get_at {i : Nat} {x : Addr} {fs : List V} {y : V} {q : Post} (h0 : ε[0]? = some (some (.ref x))) (hx : σ x = some (.inst 166 fs)) (hi : fs[i]? = some y) (h : q y σ) : wpE (P1.gx n) (.attr (.var 0) i) q ε σ := ⟨.ref x, h0, x, fs, y, rfl, hx, hi, h⟩
theorem put_at {i : Nat} {x : Addr} {fs : List V} {y : V} {q : PostE} (h0 : ε[0]? = some (some (.ref x))) (hx : σ x = some (.inst 166 fs)) (hl : i ≤ fs.length) (h : q ε (σ.set x (.inst 166 (putF fs i y)))) : wpT (P1.gx n) (.attr (.var 0) i) y q ε σ := ⟨.ref x, h0, x, fs, rfl, hx, hl, h⟩
noncomputable def Ans (σ : Sto) (x c : Addr) (F : Fil) (xs : List V) (t : Addr) (σ' : Sto) : Prop := IsF σ' x c F ∧ σ' t = some (.tup xs) ∧ P1.stat t = none ∧ Keep [x] σ σ'
theorem keep_set {x : Addr} {o o' : AO} (_hx : σ x = some o) : Keep [x] σ (σ.set x o') := fun a o'' ha e => by
  rw [Sto.set_ne _ _ (by simpa using ha)]; exact e
theorem ans_tup {x c : Addr} {F : Fil} {xs : List V} {τ : Sto} (hτ : IsF τ x c F) (k : Keep [x] σ τ) {l : Addr} (hl : New (P1.gx n) τ l) : Ans σ x c F xs l (τ.set l (.tup xs)) := by
  have hlx : x ≠ l := fun z => by have := hl.1; rw [← z, hτ] at this; cases this
  exact ⟨by show (Sto.set _ l _) x = _; rw [Sto.set_ne _ _ hlx]; exact hτ, Sto.set_self _ _ _, hl.2, k.trans (Keep.new hl.1)⟩
theorem sp_found {x c : Addr} {F : Fil} {es : List (Int × V)} {ep : Nat} {k : Int} {y : V} {q : Post} (hx : IsF σ x c F) (hc : σ c = some (.dict es ep)) (hs : P1.stat c = none) (hy : getE k es = some y)
    (h : ∀ σ' t, Ans σ x c { F with place := k, behind := true, valid := true, last := k, number := k } [.str "00", y] t σ' → q (.ref t) σ') : fnW P1 (n + 1) 106 [.ref x, .int k] q σ := by
  have ne : c ≠ x := fun z => by rw [z] at hc; rw [hx] at hc; cases hc
  refine ⟨_, rfl, ?_⟩
  show wpSs (P1.gx n) b_found _ _ _
  simp only [ss_cons_, s_asg, e_var, e_bool]
  refine ⟨.int k, rfl, put_at rfl hx (by simp [Fil.vs]) (put_at rfl (Sto.set_self _ _ _) (by simp [Fil.vs, putF]) (put_at rfl (Sto.set_self _ _ _) (by simp [Fil.vs, putF]) ⟨.int k, rfl, put_at rfl (Sto.set_self _ _ _) (by simp [Fil.vs, putF]) ⟨.int k, rfl, put_at rfl (Sto.set_self _ _ _) (by simp [Fil.vs, putF]) ?_⟩⟩))⟩
  simp only [Sto.set_set]
  have hx1 : IsF (σ.set x (.inst 166 (putF (putF (putF (putF (putF (F.vs c) 4 (.int k)) 5 (.bool true)) 6 (.bool true)) 7 (.int k)) 8 (.int k)))) x c { F with place := k, behind := true, valid := true, last := k, number := k } := by
    show (Sto.set _ x _) x = _
    rw [Sto.set_self]; rfl
  generalize hτ : σ.set x (.inst 166 (putF (putF (putF (putF (putF (F.vs c) 4 (.int k)) 5 (.bool true)) 6 (.bool true)) 7 (.int k)) 8 (.int k))) = τ at *
  have kτ : Keep [x] σ τ := hτ ▸ keep_set hx
  have hc1 : τ c = some (.dict es ep) := by rw [← hτ, Sto.set_ne _ _ ne]; exact hc
  simp only [ss_cons_, s_ret, e_tup, es_cons, es_nil, e_str, e_sub]
  refine get_at rfl hx1 rfl ⟨.int k, rfl, ?_⟩
  show subW (P1.gx n) (.ref c) (.int k) _ τ
  unfold subW
  dsimp only
  rw [look_dyn hs, hc1]
  refine ⟨y, hy, fun l hl => ?_⟩
  exact h _ l (ans_tup hx1 kτ hl)
noncomputable def modeIn (F : Fil) : Bool := ("input" : PySem.Str) == F.mode || (("i-o" : PySem.Str) == F.mode || false)
theorem mode_test {x c : Addr} {F : Fil} {q : Bool → Sto → Prop} (h0 : ε[0]? = some (some (.ref x))) (hx : IsF σ x c F) (h : ∀ σ', Keep [] σ σ' → q (!modeIn F) σ') :
    wpC (P1.gx n) (.cmp .notIn (.attr (.var 0) 1) (.tup (.cons (.str "input") (.cons (.str "i-o") .nil)))) q ε σ := by
  simp only [c_cmp]
  refine get_at h0 hx rfl ?_
  simp only [e_tup, es_cons, es_nil, e_str]
  intro l hl
  refine ⟨modeIn F, ?_, h _ (Keep.new hl.1)⟩
  show inV (look (P1.gx n) _) (.str F.mode) (.ref l) = _
  unfold inV
  dsimp only
  rw [look_dyn hl.2, Sto.set_self]
  rfl
theorem leastF_mem : ∀ {ks : List Int} {low : Int}, leastF ks low ≠ 0 → leastF ks low ∈ ks
  | [], _, h => absurd rfl h
  | k :: r, low, h => by
    rw [leastF_cons] at h ⊢
    split
    · exact .head _
    · rename_i z; rw [if_neg z] at h; exact .tail _ (leastF_mem h)
theorem getE_of : ∀ {es : List (Int × V)} {k : Int}, k ∈ es.map (·.1) → ∃ y, getE k es = some y
  | p :: r, k, h => by
    unfold getE
    by_cases e : p.1 = k
    · exact ⟨p.2, by rw [if_pos e]⟩
    · rw [if_neg e]
      exact getE_of (by rcases List.mem_cons.mp h with z | z; exact absurd z.symm e; exact z)
theorem mem_sortI {ks : List Int} {k : Int} : k ∈ sortI ks ↔ k ∈ ks := by
  unfold sortI; exact List.mem_mergeSort
noncomputable def rnx (F : Fil) (ks : List Int) : Fil × PySem.Str × Option Int :=
  if modeIn F = false then ({ F with last := 0 }, "47", none)
  else if F.valid = false then ({ F with last := 0 }, "46", none)
  else
    let k := leastF ks (if F.behind then F.place + 1 else F.place)
    if k = 0 then ({ F with last := 0, valid := false }, "10", none)
    else ({ F with place := k, behind := true, valid := true, last := k, number := k }, "00", some k)
noncomputable def rowOf (es : List (Int × V)) : Option Int → V
  | none => .bytes #[]
  | some k => (getE k es).getD .none
theorem stat63 : P1.stat 63 = some (.tup [.str "sequential", .str "dynamic"]) := rfl
theorem sp_next {x c : Addr} {F : Fil} {es : List (Int × V)} {ep : Nat} {q : Post} (hx : IsF σ x c F) (hsx : P1.stat x = none) (hc : σ c = some (.dict es ep)) (hs : P1.stat c = none) (hz : es.length ≤ 60) (ha : F.access = "sequential" ∨ F.access = "dynamic")
    (h : ∀ σ' t, Ans σ x c (rnx F (sortI (es.map (·.1)))).1 [.str (rnx F (sortI (es.map (·.1)))).2.1, rowOf es (rnx F (sortI (es.map (·.1)))).2.2] t σ' → q (.ref t) σ') : fnW P1 (n + 2) 113 [.ref x] q σ := by
  have ne : c ≠ x := fun z => by rw [z] at hc; rw [hx] at hc; cases hc
  refine ⟨_, rfl, ?_⟩
  show wpSs (P1.gx (n + 1)) b_read_next _ _ _
  simp only [ss_cons_, s_expr, e_meth, e_var, es_cons, es_nil, e_glob, e_str]
  refine ⟨.ref x, rfl, ⟨x, _, rfl, hx⟩, ?_⟩
  refine sp_need hx stat63 ha ⟨fun _ => nofun, ?_⟩
  simp only [ss_cons_, s_asg, e_int]
  refine put_at rfl hx (by simp [Fil.vs]) ?_
  have hx1 : IsF (σ.set x (.inst 166 (putF (F.vs c) 7 (.int 0)))) x c { F with last := 0 } := by
    show (Sto.set _ x _) x = _
    rw [Sto.set_self]; rfl
  generalize hτ : σ.set x (.inst 166 (putF (F.vs c) 7 (.int 0))) = τ at *
  have kτ : Keep [x] σ τ := hτ ▸ keep_set hx
  have hc1 : τ c = some (.dict es ep) := by rw [← hτ, Sto.set_ne _ _ ne]; exact hc
  simp only [ss_cons_, s_ite]
  refine mode_test rfl hx1 fun τ2 k2 => ?_
  have hx2 : IsF τ2 x c { F with last := 0 } := k2 x _ (fun h => nomatch h) hx1
  have hc2 : τ2 c = some (.dict es ep) := k2 c _ (fun h => nomatch h) hc1
  have kk : Keep [x] σ τ2 := kτ.trans k2.weak
  have hm : modeIn { F with last := 0 } = modeIn F := rfl
  rw [hm]
  unfold rnx at h
  cases hmode : modeIn F with
  | false =>
    rw [if_pos hmode] at h
    simp only [Bool.not_false, if_true, ss_cons_, s_ret, e_tup, es_cons, es_nil, e_str, e_bytes]
    exact fun l hl => h _ l (ans_tup hx2 kk hl)
  | true =>
    rw [if_neg (by simp [hmode])] at h
    simp only [Bool.not_true, Bool.false_eq_true, if_false, ss_nil_, ss_cons_, s_ite, c_not, c_val]
    refine get_at rfl hx2 rfl ⟨F.valid, rfl, ?_⟩
    cases hv : F.valid with
    | false =>
      rw [if_pos hv] at h
      simp only [Bool.not_false, if_true, ss_cons_, s_ret, e_tup, es_cons, es_nil, e_str, e_bytes]
      exact fun l hl => h _ l (ans_tup hx2 kk hl)
    | true =>
      rw [if_neg (by simp [hv])] at h
      simp only [Bool.not_true, Bool.false_eq_true, if_false, ss_nil_, ss_cons_, s_asg, e_fn, es_cons, es_nil, e_ite, c_val]
      refine get_at rfl hx2 rfl (get_at rfl hx2 rfl ⟨F.behind, rfl, ?_⟩)
      have tail : ∀ low : Int, low = (if F.behind then F.place + 1 else F.place) → fnW P1 (n + 1) 70 [.ref c, .int low] (fun x_1 σ' => wpT (P1.gx (n + 1)) (.var 1) x_1 (fun ε' σ' => wpSs (P1.gx (n + 1)) (.cons (.ite (.cmp .eq (.var 1) (.int 0)) (.cons (.ret (.meth (.var 0) 1 (.cons (.str "10") .nil))) .nil) .nil) (.cons (.ite (.chain (.int 0) .lt (.attr (.var 0) 3) .lt (.var 1)) (.cons (.ret (.meth (.var 0) 1 (.cons (.str "14") .nil))) .nil) .nil) (.cons (.ret (.meth (.var 0) 2 (.cons (.var 1) .nil))) .nil))) (retW q) ε' σ') [some (.ref x), none] σ') τ2 := by
        intro low hlow
        refine sp_least hc2 hs hz fun τ3 k3 => ?_
        rw [hlow]
        have hx3 : IsF τ3 x c { F with last := 0 } := k3 x _ (fun h => nomatch h) hx2
        have hc3 : τ3 c = some (.dict es ep) := k3 c _ (fun h => nomatch h) hc2
        have kk3 : Keep [x] σ τ3 := kk.trans k3.weak
        dsimp only at h
        generalize hk : leastF (sortI (es.map (·.1))) (if F.behind then F.place + 1 else F.place) = k at h ⊢
        refine ⟨by simp, ?_⟩
        simp only [ss_cons_, s_ite, c_cmp, e_var, e_int, List.set_cons_succ, List.set_cons_zero]
        refine ⟨.int k, rfl, k == 0, rfl, ?_⟩
        by_cases hk0 : k = 0
        · rw [if_pos hk0] at h
          subst hk0
          simp only [beq_self_eq_true, if_true, ss_cons_, s_ret, e_meth, e_var, es_cons, es_nil, e_str]
          refine ⟨.ref x, rfl, ⟨x, _, rfl, hx3⟩, ?_⟩
          exact sp_failed hx3 hsx fun σ' t a b c d => h σ' t ⟨a, b, c, kk3.trans d⟩
        · rw [if_neg hk0] at h
          have hb : (k == 0) = false := by simpa using hk0
          simp only [hb, Bool.false_eq_true, if_false, ss_nil_, ss_cons_, s_ite, c_chain, e_int]
          refine get_at rfl hx3 rfl ?_
          unfold opW
          dsimp only
          rw [if_neg (show ¬(decide ((0 : Int) < 0) = true) by decide)]
          simp only [Bool.false_eq_true, if_false, ss_nil_, ss_cons_, s_ret, e_meth, e_var, es_cons, es_nil]
          refine ⟨.ref x, rfl, ⟨x, _, rfl, hx3⟩, .int k, rfl, ?_⟩
          obtain ⟨y, hy⟩ := getE_of (mem_sortI.mp (hk ▸ leastF_mem (low := if F.behind then F.place + 1 else F.place) (by rw [hk]; exact hk0)))
          refine sp_found hx3 hc3 hs hy fun σ' t a => h σ' t ⟨a.1, ?_, a.2.2.1, kk3.trans a.2.2.2⟩
          show σ' t = some (.tup [.str "00", (getE k es).getD .none])
          rw [hy]; exact a.2.1
      cases hbh : F.behind with
      | true =>
        simp only [if_true, e_add]
        refine get_at rfl hx2 rfl ?_
        exact tail (F.place + 1) (by rw [hbh]; rfl)
      | false =>
        simp only [Bool.false_eq_true, if_false]
        exact get_at rfl hx2 rfl (tail F.place (by rw [hbh]; rfl))
end Mine
end
section
open PySem
set_option Elab.async false
set_option maxRecDepth 100000
namespace Mine
variable {n : Nat} {σ : Sto} {ε : Env0}
theorem sp_needG {x t : Addr} {fs : List V} {acc what : PySem.Str} {q : Post} (hx : σ x = some (.inst 166 fs)) (h2 : fs[2]? = some (.str acc)) (hin : inV (look (P1.gx n) σ) (.str acc) (.ref t) = some true) (h : q .none σ) :
    fnW P1 (n + 1) 92 [.ref x, .ref t, .str what] q σ := by
  refine ⟨_, rfl, ?_⟩
  show wpSs (P1.gx n) b_need _ _ _
  simp only [ss_cons_, s_ite, c_cmp, e_attr, e_var]
  exact ⟨.ref x, rfl, x, _, _, rfl, hx, h2, .ref t, rfl, true, hin, h⟩
noncomputable def Fil.fresh (mode access : PySem.Str) (N : Int) : Fil := ⟨mode, access, 1, false, true, 0, N⟩
noncomputable def iniN (mode : PySem.Str) (es : List (Int × V)) : Int := if (mode == ("extend" : PySem.Str)) = true then (match es.map (·.1) with | [] => 0 | k :: ks => ks.foldl max k) else 0
theorem sp_init {x c : Addr} {es : List (Int × V)} {ep : Nat} {mode access : PySem.Str} {q : Post} (hx : σ x = some (.inst 166 [])) (hc : σ c = some (.dict es ep)) (hs : P1.stat c = none) (hz : es.length ≤ 60)
    (he : (mode == ("extend" : PySem.Str)) = true → access = "sequential")
    (h : ∀ σ' ep', IsF σ' x c (Fil.fresh mode access (iniN mode es)) → σ' c = some (.dict (if (mode == ("output" : PySem.Str)) = true then [] else es) ep') → Keep [x, c] σ σ' → q .none σ') : fnW P1 (n + 2) 85 [.ref x, .ref c, .str mode, .str access] q σ := by
  have ne : c ≠ x := fun z => by rw [z] at hc; rw [hx] at hc; cases hc
  refine ⟨_, rfl, ?_⟩
  show wpSs (P1.gx (n + 1)) b_init _ _ _
  refine ⟨.ref c, rfl, ?_⟩
  refine put_at (i := 0) (y := .ref c) (ε := [some (.ref x), some (.ref c), some (.str mode), some (.str access), some (.int 0)]) rfl hx (Nat.zero_le _) ?_
  refine ⟨.str mode, rfl, ?_⟩
  refine put_at (i := 1) (y := .str mode) (ε := [some (.ref x), some (.ref c), some (.str mode), some (.str access), some (.int 0)]) rfl (Sto.set_self _ _ _) (by simp [putF]) ?_
  refine ⟨.str access, rfl, ?_⟩
  refine put_at (i := 2) (y := .str access) (ε := [some (.ref x), some (.ref c), some (.str mode), some (.str access), some (.int 0)]) rfl (Sto.set_self _ _ _) (by simp [putF]) ?_
  refine ⟨.int 0, rfl, ?_⟩
  refine put_at (i := 3) (y := .int 0) (ε := [some (.ref x), some (.ref c), some (.str mode), some (.str access), some (.int 0)]) rfl (Sto.set_self _ _ _) (by simp [putF]) ?_
  dsimp only
  rw [ss_cons_, s_asg, e_int]
  refine put_at (i := 4) (y := .int 1) (ε := [some (.ref x), some (.ref c), some (.str mode), some (.str access), some (.int 0)]) rfl (Sto.set_self _ _ _) (by simp [putF]) ?_
  dsimp only
  rw [ss_cons_, s_asg, e_bool]
  refine put_at (i := 5) (y := .bool false) (ε := [some (.ref x), some (.ref c), some (.str mode), some (.str access), some (.int 0)]) rfl (Sto.set_self _ _ _) (by simp [putF]) ?_
  dsimp only
  rw [ss_cons_, s_asg, e_bool]
  refine put_at (i := 6) (y := .bool true) (ε := [some (.ref x), some (.ref c), some (.str mode), some (.str access), some (.int 0)]) rfl (Sto.set_self _ _ _) (by simp [putF]) ?_
  dsimp only
  rw [ss_cons_, s_asg, e_int]
  refine put_at (i := 7) (y := .int 0) (ε := [some (.ref x), some (.ref c), some (.str mode), some (.str access), some (.int 0)]) rfl (Sto.set_self _ _ _) (by simp [putF]) ?_
  simp only [Sto.set_set]
  have hx1 : (σ.set x (.inst 166 (putF (putF (putF (putF (putF (putF (putF (putF [] 0 (.ref c)) 1 (.str mode)) 2 (.str access)) 3 (.int 0)) 4 (.int 1)) 5 (.bool false)) 6 (.bool true)) 7 (.int 0)))) x = some (.inst 166 [.ref c, .str mode, .str access, .int 0, .int 1, .bool false, .bool true, .int 0]) := Sto.set_self _ _ _
  generalize hτ : σ.set x (.inst 166 (putF (putF (putF (putF (putF (putF (putF (putF [] 0 (.ref c)) 1 (.str mode)) 2 (.str access)) 3 (.int 0)) 4 (.int 1)) 5 (.bool false)) 6 (.bool true)) 7 (.int 0))) = τ at *
  have kτ : Keep [x] σ τ := hτ ▸ keep_set hx
  have fin : ∀ τ' ep', Keep [c] τ τ' → τ' c = some (.dict (if (mode == ("output" : PySem.Str)) = true then [] else es) ep') → ∀ N : Int, N = iniN mode es → wpT (P1.gx (n + 1)) (.attr (.var 0) 8) (.int N) (retW q .next) [some (.ref x), some (.ref c), some (.str mode), some (.str access), some (.int 0)] τ' := by
    rintro τ' ep' k hce _ rfl
    have hx2 := k x _ (by simpa using Ne.symm ne) hx1
    refine put_at rfl hx2 (by simp) ?_
    have kx : Keep [x] τ' (τ'.set x (.inst 166 (putF [.ref c, .str mode, .str access, .int 0, .int 1, .bool false, .bool true, .int 0] 8 (.int (iniN mode es))))) := keep_set hx2
    refine h _ ep' ?_ (kx c _ (by simpa using ne) hce) fun a o ha e => ?_
    · show (Sto.set _ x _) x = _
      rw [Sto.set_self]; rfl
    · simp only [List.mem_cons, List.not_mem_nil, or_false, not_or] at ha
      exact kx a o (by simpa using ha.1) (k a o (by simpa using ha.2) (kτ a o (by simpa using ha.1) e))
  have out : ∀ τ', Keep [] τ τ' → wpSs (P1.gx (n + 1)) (.cons (.ite (.cmp .eq (.var 2) (.str "output")) (.cons (.expr (.bm (.var 1) .clear .nil)) .nil) .nil) (.cons (.asg (.attr (.var 0) 8) (.ite (.and (.cmp .eq (.var 2) (.str "extend")) (.val (.var 1))) (.bi .max (.var 1)) (.int 0))) .nil)) (retW q) [some (.ref x), some (.ref c), some (.str mode), some (.str access), some (.int 0)] τ' := by
    intro τ' k
    have hc2 : τ' c = some (.dict es ep) := k c _ (fun h => nomatch h) (kτ c _ (by simpa using ne) hc)
    refine ⟨.str mode, rfl, _, rfl, ?_⟩
    cases hm : (mode == ("output" : PySem.Str)) with
    | true =>
      have hme : (mode == ("extend" : PySem.Str)) = false := by
        have e1 : mode = "output" := beq_iff_eq.mp hm
        rw [e1]; decide +kernel
      refine ⟨.ref c, rfl, ⟨es, ep, hc2⟩, ⟨es, ep, hc2, fun ep' => ⟨(fun _ => nofun), ?_⟩⟩⟩
      refine ⟨.str mode, rfl, _, rfl, ?_⟩
      rw [hme]
      exact fin _ ep' (fun a o ha e => by rw [Sto.set_ne _ _ (by simpa using ha)]; exact k a o (fun h => nomatch h) e) (by rw [Sto.set_self, if_pos hm]) 0 (by unfold iniN; rw [hme]; rfl)
    | false =>
      have hc3 : τ' c = some (.dict (if (mode == ("output" : PySem.Str)) = true then [] else es) ep) := by rw [if_neg (by rw [hm]; decide)]; exact hc2
      refine ⟨.str mode, rfl, _, rfl, ?_⟩
      cases hme : (mode == ("extend" : PySem.Str)) with
      | false => exact fin τ' ep k.weak hc3 0 (by unfold iniN; rw [hme]; rfl)
      | true =>
        refine ⟨.ref c, rfl, !es.isEmpty, ?_, ?_⟩
        · show truV (look (P1.gx (n + 1)) τ') (.ref c) = _
          unfold truV
          dsimp only
          rw [look_dyn hs, hc2]
        · cases es with
          | nil => exact fin τ' ep k.weak hc3 0 (by unfold iniN; rw [hme]; rfl)
          | cons p r =>
            refine ⟨.ref c, rfl, _, _, p.1, r.map (·.1), (look_dyn hs).trans hc2, rfl, (fun _ => nofun), (fun _ => nofun), keys_ints (p :: r), by rw [List.length_map]; simp at hz; omega, fin τ' ep k.weak hc3 _ (by unfold iniN; rw [hme]; rfl)⟩
  refine ⟨.str mode, rfl, _, rfl, ?_⟩
  cases hme : (mode == ("extend" : PySem.Str)) with
  | false => exact out τ (Keep.refl _ _)
  | true =>
    refine ⟨.ref x, rfl, ⟨x, _, rfl, hx1⟩, fun l hl => ?_⟩
    have k1 : Keep [] τ (τ.set l (.tup [.str "sequential"])) := Keep.new hl.1
    refine sp_needG (k1 x _ (fun h => nomatch h) hx1) rfl ?_ ⟨fun _ => nofun, out _ k1⟩
    show inV (look (P1.gx n) _) (.str access) (.ref l) = _
    unfold inV
    dsimp only
    rw [look_dyn hl.2, Sto.set_self, he hme]
    decide +kernel
theorem sp_file {c : Addr} {es : List (Int × V)} {ep : Nat} {mode access : PySem.Str} {q : Post} (hc : σ c = some (.dict es ep)) (hs : P1.stat c = none) (hz : es.length ≤ 60) (he : (mode == ("extend" : PySem.Str)) = true → access = "sequential")
    (h : ∀ σ' x ep', IsF σ' x c (Fil.fresh mode access (iniN mode es)) → P1.stat x = none → σ' c = some (.dict (if (mode == ("output" : PySem.Str)) = true then [] else es) ep') → Keep [c] σ σ' → σ x = none → q (.ref x) σ') : fnW P1 (n + 3) 166 [.ref c, .str mode, .str access] q σ := by
  intro l dx hl hdx hne
  have e0 : ∀ a o, σ a = some o → ((σ.set dx (.priv l)).set l (.inst P1.cls [])) a = some o := fun a o e => by
    rw [Sto.set_ne _ _ (fun z => by rw [z, hl.1] at e; cases e), Sto.set_ne _ _ (fun z => by rw [z, hdx.1] at e; cases e)]; exact e
  refine sp_init (Sto.set_self _ _ _) (e0 _ _ hc) hs hz he fun σ' ep' h1 h2 h3 => ⟨rfl, h σ' l ep' h1 hl.2 h2 (fun a o ha e => h3 a o (fun z => ?_) (e0 a o e)) hl.1⟩
  simp only [List.mem_cons, List.not_mem_nil, or_false] at z ha
  rcases z with z | z
  · rw [z, hl.1] at e; cases e
  · exact ha z
noncomputable def onward (ks : List Int) (low : Int) : List Int := ks.filter fun k => decide (low ≤ k)
theorem least_onward : ∀ {ks : List Int} {low : Int}, leastF ks low = (onward ks low).headD 0
  | [], _ => rfl
  | k :: r, low => by
    rw [leastF_cons]
    unfold onward
    by_cases h : low ≤ k
    · rw [if_pos h, List.filter_cons_of_pos (by simpa using h)]; rfl
    · rw [if_neg h, List.filter_cons_of_neg (by simpa using h)]; exact least_onward
theorem onward_next : ∀ {ks : List Int} {low k : Int} {r : List Int}, ks.Pairwise (· < ·) → onward ks low = k :: r → onward ks (k + 1) = r
  | [], _, _, _, _, h => by cases h
  | a :: ks, low, k, r, hs, h => by
    have hs' := List.pairwise_cons.mp hs
    unfold onward at h ⊢
    by_cases ha : low ≤ a
    · rw [List.filter_cons_of_pos (by simpa using ha)] at h
      cases h
      rw [List.filter_cons_of_neg (by simp; omega)]
      refine List.filter_congr fun b hb => ?_
      have := hs'.1 b hb
      simp only [decide_eq_decide]
      omega
    · rw [List.filter_cons_of_neg (by simpa using ha)] at h
      have hk : k ∈ ks := (List.mem_filter.mp (show k ∈ ks.filter _ by rw [h]; exact .head _)).1
      have := hs'.1 k hk
      rw [List.filter_cons_of_neg (by simp; omega)]
      exact onward_next hs'.2 h
structure Good (es : List (Int × V)) : Prop where
  nodup : (es.map (·.1)).Nodup
  pos : ∀ k ∈ es.map (·.1), 0 < k
  few : es.length ≤ 60
theorem Good.sorted {es : List (Int × V)} (g : Good es) : (sortI (es.map (·.1))).Pairwise (· < ·) := by
  have h1 : (sortI (es.map (·.1))).Perm (es.map (·.1)) := List.mergeSort_perm _ _
  have h2 : (sortI (es.map (·.1))).Pairwise fun a b => decide (a ≤ b) = true := List.pairwise_mergeSort (fun a b c x y => by simp at *; omega) (fun a b => by simp; omega) _
  have h3 : (sortI (es.map (·.1))).Nodup := h1.nodup_iff.mpr g.nodup
  have h4 : (sortI (es.map (·.1))).Pairwise (· ≠ ·) := h3
  exact (h2.and h4).imp fun ⟨a, b⟩ => by simp at a; omega
theorem Good.spos {es : List (Int × V)} (g : Good es) {k : Int} (h : k ∈ sortI (es.map (·.1))) : 0 < k := g.pos k (mem_sortI.mp h)
end Mine
end
section
open PySem
set_option Elab.async false
set_option maxRecDepth 100000
namespace Mine
variable {n : Nat} {σ σ' σ'' : Sto} {ε : Env0}
noncomputable def keeps (X : List Addr) (a : Addr) : AO → Prop
  | .inst _ _ => False
  | .list _ _ => a ∉ X
  | .dict _ _ => a ∉ X
  | .taker _ => a ∉ X
  | _ => True
noncomputable def Kp (X : List Addr) (σ σ' : Sto) : Prop := (∀ a o, keeps X a o → σ a = some o → σ' a = some o) ∧ ∀ a, σ' a = none → σ a = none
theorem Kp.refl {X : List Addr} : Kp X σ σ := ⟨fun _ _ _ e => e, fun _ e => e⟩
theorem Kp.trans {X : List Addr} (x : Kp X σ σ') (y : Kp X σ' σ'') : Kp X σ σ'' := ⟨fun a o h e => y.1 a o h (x.1 a o h e), fun a e => x.2 a (y.2 a e)⟩
theorem keeps.mono {X Y : List Addr} (s : ∀ a ∈ X, a ∈ Y) {a : Addr} {o : AO} (h : keeps Y a o) : keeps X a o := by
  cases o <;> first | exact h | exact fun z => h (s _ z)
theorem Kp.mono {X Y : List Addr} (s : ∀ a ∈ X, a ∈ Y) (x : Kp X σ σ') : Kp Y σ σ' := ⟨fun a o h e => x.1 a o (h.mono s) e, x.2⟩
theorem Kp.weak {X : List Addr} (x : Kp [] σ σ') : Kp X σ σ' := x.mono (X := []) (fun _ h => nomatch h)
theorem set_none {l a : Addr} {o : AO} (h : (σ.set l o) a = none) : σ a = none := by
  by_cases e : a = l
  · rw [e, Sto.set_self] at h; cases h
  · rw [Sto.set_ne _ _ e] at h; exact h
theorem Kp.new {X : List Addr} {l : Addr} {o : AO} (h : σ l = none) : Kp X σ (σ.set l o) := by
  refine ⟨fun a o' _ e => ?_, fun _ => set_none⟩
  rw [Sto.set_ne]; exact e
  intro z; subst z; rw [h] at e; cases e
theorem Kp.put {X : List Addr} {l : Addr} {o o' : AO} (h : σ l = some o) (hk : ¬ keeps X l o) : Kp X σ (σ.set l o') := by
  refine ⟨fun a o'' k e => ?_, fun _ => set_none⟩
  rw [Sto.set_ne]; exact e
  intro z; subst z; rw [h] at e; cases e; exact hk k
theorem Kp.drop {X : List Addr} {l : Addr} (h : σ l = none) (x : Kp (l :: X) σ σ') : Kp X σ σ' := ⟨fun a o k e => x.1 a o (by
  have : a ≠ l := fun z => by rw [z, h] at e; cases e
  cases o <;> first | exact k | exact fun z => (List.mem_cons.mp z).elim this k) e, x.2⟩
theorem Keep.kpx {x : Addr} {fs : List V} {X : List Addr} {cl : Addr} {o' : AO} (h : Keep [x] σ σ') (hx : σ x = some (.inst cl fs)) (hx' : σ' x = some o') : Kp X σ σ' := by
  refine ⟨fun a o k e => h a o (fun z => ?_) e, fun a e => ?_⟩
  · have z : a = x := by simpa using z
    subst z; rw [hx] at e; cases e; exact k
  · cases e' : σ a with
    | none => rfl
    | some o =>
      by_cases z : a = x
      · subst z; rw [hx'] at e; cases e
      · have := h a o (by simpa using z) e'
        rw [e] at this; cases this
theorem Keep.kpd {c : Addr} {es : List (Int × V)} {ep : Nat} {o' : AO} (h : Keep [c] σ σ') (hc : σ c = some (.dict es ep)) (hc' : σ' c = some o') : Kp [c] σ σ' := by
  refine ⟨fun a o k e => h a o (fun z => ?_) e, fun a e => ?_⟩
  · have z : a = c := by simpa using z
    subst z; rw [hc] at e; cases e; exact k (.head _)
  · cases e' : σ a with
    | none => rfl
    | some o =>
      by_cases z : a = c
      · subst z; rw [hc'] at e; cases e
      · have := h a o (by simpa using z) e'
        rw [e] at this; cases this
theorem Kp.tup {X : List Addr} (h : Kp X σ σ') {t : Addr} {xs : List V} (e : σ t = some (.tup xs)) : σ' t = some (.tup xs) := h.1 t _ True.intro e
theorem Kp.dict {X : List Addr} (h : Kp X σ σ') {c : Addr} {es : List (Int × V)} {ep : Nat} (e : σ c = some (.dict es ep)) (hX : c ∉ X := by exact List.not_mem_nil) : σ' c = some (.dict es ep) := h.1 c _ hX e
theorem Kp.list {X : List Addr} (h : Kp X σ σ') {c : Addr} {m : Bool} {xs : List V} (e : σ c = some (.list m xs)) (hX : c ∉ X := by exact List.not_mem_nil) : σ' c = some (.list m xs) := h.1 c _ hX e
theorem Kp.range {X : List Addr} (h : Kp X σ σ') {c : Addr} {k : Nat} (e : σ c = some (.range k)) : σ' c = some (.range k) := h.1 c _ True.intro e
theorem Kp.taker {X : List Addr} (h : Kp X σ σ') {c : Addr} {k : Nat} (e : σ c = some (.taker k)) (hX : c ∉ X := by exact List.not_mem_nil) : σ' c = some (.taker k) := h.1 c _ hX e
inductive It where
  | at (x : V)
  | tup (xs : List V)
noncomputable def atom : V → Bool
  | .int _ => true
  | .str _ => true
  | .bytes _ => true
  | .bool _ => true
  | _ => false
noncomputable def It.ok : It → Prop
  | .at x => atom x = true
  | .tup xs => ∀ x ∈ xs, atom x = true
noncomputable def lk (σ : Sto) (a : Addr) : Option AO := match P1.stat a with
  | some o => some o
  | none => σ a
theorem lk_dyn {a : Addr} (h : P1.stat a = none) : lk σ a = σ a := by unfold lk; rw [h]
noncomputable def ItAt (σ : Sto) (v : V) : It → Prop
  | .at x => v = x
  | .tup xs => ∃ t, v = .ref t ∧ lk σ t = some (.tup xs)
inductive Its (σ : Sto) : List V → List It → Prop
  | nil : Its σ [] []
  | cons {v : V} {i : It} {vs : List V} {is : List It} : ItAt σ v i → Its σ vs is → Its σ (v :: vs) (i :: is)
theorem ItAt.keep {X : List Addr} {v : V} {i : It} (h : ItAt σ v i) (k : Kp X σ σ') : ItAt σ' v i := by
  cases i with
  | «at» x => exact h
  | tup xs =>
    obtain ⟨t, a, b⟩ := h
    refine ⟨t, a, ?_⟩
    unfold lk at b ⊢
    cases hs : P1.stat t with
    | some o => rw [hs] at b; exact b
    | none => rw [hs] at b; exact k.tup b
theorem Its.keep {X : List Addr} {vs : List V} {is : List It} (h : Its σ vs is) (k : Kp X σ σ') : Its σ' vs is := by
  induction h with
  | nil => exact .nil
  | cons a _ ih => exact .cons (a.keep k) ih
theorem Its.append {vs ws : List V} {is js : List It} (h : Its σ vs is) (h' : Its σ ws js) : Its σ (vs ++ ws) (is ++ js) := by
  induction h with
  | nil => exact h'
  | cons a _ ih => exact .cons a ih
theorem Its.snoc {vs : List V} {is : List It} {v : V} {i : It} (h : Its σ vs is) (h' : ItAt σ v i) : Its σ (vs ++ [v]) (is ++ [i]) := h.append (.cons h' .nil)
theorem Its.length {vs : List V} {is : List It} (h : Its σ vs is) : vs.length = is.length := by
  induction h with
  | nil => rfl
  | cons _ _ ih => simp [ih]
theorem eq_atom {L : Addr → Option AO} {m : Nat} {x : V} (h : atom x = true) : eqV L m x x = some true := by
  cases x <;> first | (cases m <;> simp [eqV]; done) | cases h
theorem allEq_atoms {L : Addr → Option AO} {m : Nat} : ∀ {xs : List V}, (∀ x ∈ xs, atom x = true) → allEq (eqV L m) xs xs = some true
  | [], _ => rfl
  | x :: xs, h => by
    unfold allEq
    rw [eq_atom (h x (.head _)), allEq_atoms fun y hy => h y (.tail _ hy)]
    rfl
theorem allEq_its {vs : List V} {is : List It} (h : Its σ vs is) : ∀ {ws : List V}, Its σ ws is → (∀ i ∈ is, i.ok) → allEq (eqV (look (P1.gx n) σ) 3) vs ws = some true := by
  induction h with
  | nil => intro ws h2 _; cases h2; rfl
  | @cons v i vs is a _ ih =>
    intro ws h2 ho
    cases h2 with
    | @cons w _ ws _ b h2 =>
      have e : eqV (look (P1.gx n) σ) 3 v w = some true := by
        have := ho i (.head _)
        cases i with
        | «at» x =>
          have a : v = x := a
          have b : w = x := b
          rw [a, b]; exact eq_atom this
        | tup xs =>
          obtain ⟨t, rfl, a1⟩ := a
          obtain ⟨t', rfl, b1⟩ := b
          unfold eqV
          rw [show look (P1.gx n) σ t = _ from a1, show look (P1.gx n) σ t' = _ from b1]
          dsimp only
          rw [if_pos rfl]
          exact allEq_atoms this
      unfold allEq
      rw [e, ih h2 fun j hj => ho j (.tail _ hj)]
      rfl
theorem eq_lists {l m : Addr} {b b' : Bool} {vs ws : List V} {is : List It} (hl : σ l = some (.list b vs)) (sl : P1.stat l = none) (hm : σ m = some (.list b' ws)) (sm : P1.stat m = none) (h : Its σ vs is) (h' : Its σ ws is) (ho : ∀ i ∈ is, i.ok) :
    eqT (look (P1.gx n) σ) (.ref l) (.ref m) = some true := by
  unfold eqT
  dsimp only
  rw [look_dyn sl, look_dyn sm, hl, hm]
  dsimp only
  unfold eqV
  rw [look_dyn sl, look_dyn sm, hl, hm]
  dsimp only
  rw [if_pos (by rw [h.length, h'.length]), allEq_its h h' ho]
theorem ItAt.of {t : Addr} {xs : List V} (h : σ t = some (.tup xs)) (s : P1.stat t = none) : ItAt σ (.ref t) (.tup xs) := ⟨t, rfl, (lk_dyn s).trans h⟩
noncomputable def chs (F : Fil) (es : List (Int × V)) (k : Int) : PySem.Str × Int :=
  if (F.access == ("sequential" : PySem.Str)) = true then (if 0 < F.last then ("00", F.last) else ("43", 0)) else if (getE k es).isSome = true then ("00", k) else ("23", 0)
theorem str_ne {a b : PySem.Str} {Γ : Gx} {q : Bool → Sto → Prop} (h : q (!(a == b)) σ) : opW Γ .ne (.str a) (.str b) q σ := ⟨_, rfl, h⟩
theorem str_eq {a b : PySem.Str} {Γ : Gx} {q : Bool → Sto → Prop} (h : q (a == b) σ) : opW Γ .eq (.str a) (.str b) q σ := ⟨_, rfl, h⟩
theorem in_dict {c : Addr} {es : List (Int × V)} {ep : Nat} {k : Int} {q : Bool → Sto → Prop} (hc : σ c = some (.dict es ep)) (hs : P1.stat c = none) (h : q (getE k es).isSome σ) : opW (P1.gx n) .isIn (.int k) (.ref c) q σ := by
  refine ⟨_, ?_, h⟩
  unfold inV
  dsimp only
  rw [look_dyn hs, hc]
theorem sub_dict {c : Addr} {es : List (Int × V)} {ep : Nat} {k : Int} {y : V} {q : Post} (hc : σ c = some (.dict es ep)) (hs : P1.stat c = none) (hy : getE k es = some y) (h : q y σ) : subW (P1.gx n) (.ref c) (.int k) q σ := by
  unfold subW
  dsimp only
  rw [look_dyn hs, hc]
  exact ⟨y, hy, h⟩
theorem sp_chosen {x c : Addr} {F : Fil} {es : List (Int × V)} {ep : Nat} {k : Int} {q : Post} (hx : IsF σ x c F) (hm : F.mode = "i-o") (hc : σ c = some (.dict es ep)) (hs : P1.stat c = none)
    (h : ∀ σ' t, IsF σ' x c { F with last := 0 } → σ' t = some (.tup [.str (chs F es k).1, .int (chs F es k).2]) → P1.stat t = none → Keep [x] σ σ' → q (.ref t) σ') : fnW P1 (n + 1) 142 [.ref x, .int k] q σ := by
  have ne : c ≠ x := fun z => by rw [z] at hc; rw [hx] at hc; cases hc
  refine ⟨_, rfl, ?_⟩
  show wpSs (P1.gx n) b_chosen _ _ _
  rw [ss_cons_, s_asg]
  refine get_at rfl hx rfl ?_
  rw [t_var]
  refine ⟨by simp, ?_⟩
  dsimp only
  rw [ss_cons_, s_asg, e_int]
  refine put_at rfl hx (by simp [Fil.vs]) ?_
  have hx1 : IsF (σ.set x (.inst 166 (putF (F.vs c) 7 (.int 0)))) x c { F with last := 0 } := by
    show (Sto.set _ x _) x = _
    rw [Sto.set_self]; rfl
  generalize hτ : σ.set x (.inst 166 (putF (F.vs c) 7 (.int 0))) = τ at *
  have kτ : Keep [x] σ τ := hτ ▸ keep_set hx
  have hc1 : τ c = some (.dict es ep) := kτ c _ (by simpa using ne) hc
  have fin : ∀ (s : PySem.Str) (i : Int), chs F es k = (s, i) → ∀ l, New (P1.gx n) τ l → q (.ref l) (τ.set l (.tup [.str s, .int i])) := by
    intro s i e l hl
    refine h _ l (Keep.new (X := []) hl.1 x _ (fun z => nomatch z) hx1) ?_ hl.2 (kτ.trans (Keep.new hl.1))
    rw [e]; exact Sto.set_self _ _ _
  dsimp only
  rw [ss_cons_, s_ite, c_cmp]
  refine get_at rfl hx1 rfl ?_
  rw [e_str]
  refine str_ne ?_
  have hmm : (F.mode == ("i-o" : PySem.Str)) = true := by rw [hm]; decide +kernel
  dsimp only
  rw [hmm]
  rw [if_neg (by decide), ss_nil_]
  dsimp only
  rw [ss_cons_, s_ite, c_cmp]
  refine get_at rfl hx1 rfl ?_
  rw [e_str]
  refine str_eq ?_
  unfold chs at fin
  dsimp only
  cases ha : (F.access == ("sequential" : PySem.Str)) with
  | true =>
    rw [if_pos ha] at fin
    rw [if_pos rfl, ss_cons_, s_ret, e_ite, c_cmp, e_var]
    refine ⟨.int F.last, rfl, ?_⟩
    rw [e_int]
    show if decide (0 < F.last) = true then _ else _
    by_cases hl : 0 < F.last
    · rw [if_pos hl] at fin
      rw [if_pos (by simpa using hl), e_tup, es_cons, e_str, es_cons, e_var]
      refine ⟨.int F.last, rfl, ?_⟩
      rw [es_nil]
      exact fin _ _ rfl
    · rw [if_neg hl] at fin
      rw [if_neg (by simpa using hl), e_tup, es_cons, e_str, es_cons, e_int, es_nil]
      exact fin _ _ rfl
  | false =>
    rw [if_neg (by rw [ha]; decide)] at fin
    rw [if_neg (by decide), ss_nil_]
    dsimp only
    rw [ss_cons_, s_ret, e_ite, c_cmp, e_var]
    refine ⟨.int k, rfl, get_at rfl hx1 rfl (in_dict hc1 hs ?_)⟩
    by_cases hg : (getE k es).isSome = true
    · rw [if_pos hg] at fin
      rw [if_pos hg, e_tup, es_cons, e_str, es_cons, e_var]
      refine ⟨.int k, rfl, ?_⟩
      rw [es_nil]
      exact fin _ _ rfl
    · rw [if_neg hg] at fin
      rw [if_neg hg, e_tup, es_cons, e_str, es_cons, e_int, es_nil]
      exact fin _ _ rfl
noncomputable def rwr (F : Fil) (es : List (Int × V)) (k : Int) (b : Array UInt8) : Fil × List (Int × V) × PySem.Str :=
  if ((chs F es k).1 == ("00" : PySem.Str)) = true then ({ F with last := 0, number := (chs F es k).2 }, putE (chs F es k).2 (.bytes b) es, (chs F es k).1) else ({ F with last := 0 }, es, (chs F es k).1)
theorem sp_rewrite {x c : Addr} {F : Fil} {es : List (Int × V)} {ep : Nat} {k : Int} {b : Array UInt8} {xs : List V} {q : Post} (hxs : fillA 3 [.int 0] xs = some [.ref x, .bytes b, .int k]) (hx : IsF σ x c F) (hm : F.mode = "i-o") (hc : σ c = some (.dict es ep)) (hs : P1.stat c = none) (hz : es.length ≤ 60)
    (h : ∀ σ' ep', IsF σ' x c (rwr F es k b).1 → σ' c = some (.dict (rwr F es k b).2.1 ep') → Kp [c] σ σ' → q (.str (rwr F es k b).2.2) σ') : fnW P1 (n + 2) 150 xs q σ := by
  have ne : c ≠ x := fun z => by rw [z] at hc; rw [hx] at hc; cases hc
  refine ⟨_, hxs, ?_⟩
  show wpSs (P1.gx (n + 1)) b_rewrite _ _ _
  rw [ss_cons_, s_asg, e_meth, e_var]
  refine ⟨.ref x, rfl, ⟨x, _, rfl, hx⟩, ?_⟩
  rw [es_cons, e_var]
  refine ⟨.int k, rfl, ?_⟩
  rw [es_nil]
  refine sp_chosen hx hm hc hs fun τ t hx1 ht hst k1 => ?_
  have hc1 : τ c = some (.dict es ep) := k1 c _ (by simpa using ne) hc
  have kp1 : Kp [c] σ τ := k1.kpx hx hx1
  rw [t_tup]
  refine ⟨t, _, rfl, (look_dyn hst).trans ht, rfl, ?_⟩
  refine ⟨_, _, rfl, by simp, _, _, rfl, by simp, rfl, ?_⟩
  generalize hch : chs F es k = st at *
  unfold rwr at h
  rw [hch] at h
  rw [ss_cons_, s_ite, c_cmp, e_var]
  refine ⟨.str st.1, rfl, ?_⟩
  rw [e_str]
  refine str_eq ?_
  have ret : ∀ τ', q (.str st.1) τ' → wpSs (P1.gx (n + 1)) (.cons (.ret (.var 3)) .nil) (retW q) [some (.ref x), some (.bytes b), some (.int k), some (.str st.1), some (.int st.2)] τ' := by
    intro τ' hq
    rw [ss_cons_, s_ret, e_var]
    exact ⟨.str st.1, rfl, hq⟩
  cases hb : (st.1 == ("00" : PySem.Str)) with
  | true =>
    rw [if_pos hb] at h
    rw [if_pos rfl, ss_cons_, s_asg, e_bi, e_var]
    refine ⟨.bytes b, rfl, ?_⟩
    show wpT (P1.gx (n + 1)) _ (.bytes b) _ _ τ
    rw [t_sub]
    refine get_at rfl hx1 rfl ?_
    rw [e_var]
    refine ⟨.int st.2, rfl, c, st.2, es, ep, rfl, rfl, hc1, by omega, fun ep' => ?_⟩
    have k2 : Keep [c] τ (τ.set c (.dict (putE st.2 (.bytes b) es) ep')) := keep_set hc1
    have hx2 := k2 x _ (by simpa using ne.symm) hx1
    have hc2 : (τ.set c (.dict (putE st.2 (.bytes b) es) ep')) c = some (.dict (putE st.2 (.bytes b) es) ep') := Sto.set_self _ _ _
    have kp2 := k2.kpd hc1 hc2
    generalize τ.set c (.dict (putE st.2 (.bytes b) es) ep') = τ2 at *
    dsimp only
    rw [ss_cons_, s_asg, e_var]
    refine ⟨.int st.2, rfl, put_at rfl hx2 (by simp [Fil.vs]) ?_⟩
    rw [ss_nil_]
    refine ret _ (h _ ep' ?_ ?_ ((kp1.trans kp2).trans ((keep_set hx2).kpx hx2 (Sto.set_self _ _ _))))
    · show (Sto.set _ x _) x = _
      rw [Sto.set_self]; rfl
    · exact keep_set hx2 c _ (by simpa using ne) hc2
  | false =>
    rw [if_neg (by rw [hb]; decide)] at h
    rw [if_neg (by decide), ss_nil_]
    exact ret _ (h _ ep hx1 hc1 kp1)
noncomputable def delF (F : Fil) (es : List (Int × V)) (k : Int) : Fil × List (Int × V) × PySem.Str :=
  if ((chs F es k).1 == ("00" : PySem.Str)) = true then ({ F with last := 0 }, delE (chs F es k).2 es, (chs F es k).1) else ({ F with last := 0 }, es, (chs F es k).1)
theorem sp_delete {x c : Addr} {F : Fil} {es : List (Int × V)} {ep : Nat} {k : Int} {xs : List V} {q : Post} (hxs : fillA 2 [.int 0] xs = some [.ref x, .int k]) (hx : IsF σ x c F) (hm : F.mode = "i-o") (hc : σ c = some (.dict es ep)) (hs : P1.stat c = none) (hz : es.length ≤ 60)
    (hy : ((chs F es k).1 == ("00" : PySem.Str)) = true → ∃ b, getE (chs F es k).2 es = some (.bytes b))
    (h : ∀ σ' ep', IsF σ' x c (delF F es k).1 → σ' c = some (.dict (delF F es k).2.1 ep') → Kp [c] σ σ' → q (.str (delF F es k).2.2) σ') : fnW P1 (n + 2) 158 xs q σ := by
  have ne : c ≠ x := fun z => by rw [z] at hc; rw [hx] at hc; cases hc
  refine ⟨_, hxs, ?_⟩
  show wpSs (P1.gx (n + 1)) b_delete _ _ _
  rw [ss_cons_, s_asg, e_meth, e_var]
  refine ⟨.ref x, rfl, ⟨x, _, rfl, hx⟩, ?_⟩
  rw [es_cons, e_var]
  refine ⟨.int k, rfl, ?_⟩
  rw [es_nil]
  refine sp_chosen hx hm hc hs fun τ t hx1 ht hst k1 => ?_
  have hc1 : τ c = some (.dict es ep) := k1 c _ (by simpa using ne) hc
  have kp1 : Kp [c] σ τ := k1.kpx hx hx1
  rw [t_tup]
  refine ⟨t, _, rfl, (look_dyn hst).trans ht, rfl, ?_⟩
  refine ⟨_, _, rfl, by simp, _, _, rfl, by simp, rfl, ?_⟩
  generalize hch : chs F es k = st at *
  unfold delF at h
  rw [hch] at h
  rw [ss_cons_, s_ite, c_cmp, e_var]
  refine ⟨.str st.1, rfl, ?_⟩
  rw [e_str]
  refine str_eq ?_
  have ret : ∀ τ', q (.str st.1) τ' → wpSs (P1.gx (n + 1)) (.cons (.ret (.var 2)) .nil) (retW q) [some (.ref x), some (.int k), some (.str st.1), some (.int st.2)] τ' := by
    intro τ' hq
    rw [ss_cons_, s_ret, e_var]
    exact ⟨.str st.1, rfl, hq⟩
  cases hb : (st.1 == ("00" : PySem.Str)) with
  | true =>
    obtain ⟨b, hy⟩ := hy hb
    rw [if_pos hb] at h
    rw [if_pos rfl, ss_cons_, s_expr, e_bm]
    refine get_at rfl hx1 rfl ⟨⟨es, ep, hc1⟩, ?_⟩
    rw [es_cons, e_var]
    refine ⟨.int st.2, rfl, ?_⟩
    rw [es_nil]
    refine ⟨es, ep, hc1, .bytes b, hy, by omega, fun ep' => ⟨fun _ => nofun, ?_⟩⟩
    have k2 : Keep [c] τ (τ.set c (.dict (delE st.2 es) ep')) := keep_set hc1
    have hx2 := k2 x _ (by simpa using ne.symm) hx1
    have hc2 : (τ.set c (.dict (delE st.2 es) ep')) c = some (.dict (delE st.2 es) ep') := Sto.set_self _ _ _
    have kp2 := k2.kpd hc1 hc2
    generalize τ.set c (.dict (delE st.2 es) ep') = τ2 at *
    dsimp only
    rw [ss_nil_]
    exact ret _ (h _ ep' hx2 hc2 (kp1.trans kp2))
  | false =>
    rw [if_neg (by rw [hb]; decide)] at h
    rw [if_neg (by decide), ss_nil_]
    exact ret _ (h _ ep hx1 hc1 kp1)
end Mine
end
section
open PySem
set_option Elab.async false
set_option maxRecDepth 100000
namespace Mine
variable {n : Nat} {σ σ' : Sto} {ε : Env0}
noncomputable def Oct (es : List (Int × V)) : Prop := ∀ p ∈ es, ∃ b, p.2 = .bytes b
theorem Oct.of : ∀ {es : List (Int × V)}, Oct es → ∀ {k : Int} {y : V}, getE k es = some y → ∃ b, y = .bytes b
  | [], _, _, _, e => by cases e
  | p :: r, h, k, y, e => by
    unfold getE at e
    by_cases z : p.1 = k
    · rw [if_pos z] at e; cases e; exact h p (.head _)
    · rw [if_neg z] at e; exact Oct.of (es := r) (fun p hp => h p (.tail _ hp)) e
noncomputable def keys (es : List (Int × V)) : List Int := es.map (·.1)
theorem getE_none : ∀ {es : List (Int × V)} {k : Int}, k ∉ keys es → getE k es = none
  | [], _, _ => rfl
  | p :: r, k, h => by
    unfold getE
    have h : k ≠ p.1 ∧ k ∉ keys r := ⟨fun z => h (z ▸ List.mem_cons_self), fun z => h (List.mem_cons_of_mem _ z)⟩
    rw [if_neg (Ne.symm h.1)]
    exact getE_none h.2
theorem isSome_getE {es : List (Int × V)} {k : Int} : (getE k es).isSome = true ↔ k ∈ keys es := by
  constructor
  · intro h
    refine Classical.byContradiction fun z => ?_
    rw [getE_none z] at h; cases h
  · intro h
    obtain ⟨y, hy⟩ := getE_of h
    rw [hy]; rfl
theorem getE_self : ∀ {es : List (Int × V)}, (keys es).Nodup → ∀ {p : Int × V}, p ∈ es → getE p.1 es = some p.2
  | q :: r, hn, p, hp => by
    have hn := List.nodup_cons.mp (show (q.1 :: keys r).Nodup from hn)
    unfold getE
    rcases List.mem_cons.mp hp with e | e
    · subst e; rw [if_pos rfl]
    · have : q.1 ≠ p.1 := fun z => hn.1 (by rw [z]; exact List.mem_map_of_mem e)
      rw [if_neg this]; exact getE_self hn.2 e
theorem Oct.get {es : List (Int × V)} (o : Oct es) {k : Int} (h : k ∈ keys es) : ∃ b, getE k es = some (.bytes b) := by
  obtain ⟨y, hy⟩ := getE_of h
  obtain ⟨b, rfl⟩ := o.of hy
  exact ⟨b, hy⟩
noncomputable def delK (ks : List Int) (es : List (Int × V)) : List (Int × V) := es.filter fun p => decide (p.1 ∉ ks)
theorem delE_eq : ∀ {es : List (Int × V)} {k : Int}, (keys es).Nodup → delE k es = es.filter fun p => decide (p.1 ≠ k)
  | [], _, _ => rfl
  | p :: r, k, hn => by
    have hn := List.nodup_cons.mp (show (p.1 :: keys r).Nodup from hn)
    unfold delE
    by_cases h : p.1 = k
    · rw [if_pos h, List.filter_cons_of_neg (by simpa using h)]
      symm
      refine List.filter_eq_self.mpr fun q hq => ?_
      have : q.1 ≠ k := fun z => hn.1 (by rw [h, ← z]; exact List.mem_map_of_mem hq)
      simpa using this
    · rw [if_neg h, List.filter_cons_of_pos (by simpa using h), delE_eq hn.2]
theorem keys_delK {ks : List Int} {es : List (Int × V)} : keys (delK ks es) = (keys es).filter fun k => decide (k ∉ ks) := by
  unfold keys delK
  rw [List.filter_map]; rfl
theorem mem_delK {ks : List Int} {es : List (Int × V)} {k : Int} : k ∈ keys (delK ks es) ↔ k ∈ keys es ∧ k ∉ ks := by
  rw [keys_delK, List.mem_filter]; simp
theorem delK_nodup {ks : List Int} {es : List (Int × V)} (h : (keys es).Nodup) : (keys (delK ks es)).Nodup := by
  rw [keys_delK]; exact h.sublist List.filter_sublist
theorem delK_nil {es : List (Int × V)} : delK [] es = es := List.filter_eq_self.mpr fun _ _ => by simp
theorem delK_congr {ks ks' : List Int} {es : List (Int × V)} (h : ∀ k ∈ keys es, k ∈ ks ↔ k ∈ ks') : delK ks es = delK ks' es := by
  refine List.filter_congr fun p hp => ?_
  have := h p.1 (List.mem_map_of_mem hp)
  simp [this]
theorem delK_skip {ks : List Int} {es : List (Int × V)} {k : Int} (h : k ∉ keys (delK ks es)) : delK (ks ++ [k]) es = delK ks es := delK_congr fun j hj => by
  rw [List.mem_append, List.mem_singleton]
  refine ⟨fun z => ?_, .inl⟩
  rcases z with z | z
  · exact z
  · subst z
    refine Classical.byContradiction fun w => h (mem_delK.mpr ⟨hj, w⟩)
theorem delK_del {ks : List Int} {es : List (Int × V)} {k : Int} (h : (keys es).Nodup) : delE k (delK ks es) = delK (ks ++ [k]) es := by
  rw [delE_eq (delK_nodup h)]
  unfold delK
  rw [List.filter_filter]
  refine List.filter_congr fun p _ => ?_
  simp [and_comm]
theorem Good.delK {ks : List Int} {es : List (Int × V)} (g : Good es) : Good (delK ks es) :=
  ⟨delK_nodup g.nodup, fun k hk => g.pos k (mem_delK.mp hk).1, Nat.le_trans (List.length_filter_le _ _) g.few⟩
theorem Oct.delK {ks : List Int} {es : List (Int × V)} (o : Oct es) : Oct (delK ks es) := fun p hp => o p (List.mem_filter.mp (show p ∈ List.filter _ es from hp)).1
theorem dictEq_self {f : V → V → Option Bool} {fs : List (Int × V)} : ∀ {es : List (Int × V)}, (∀ p ∈ es, getE p.1 fs = some p.2 ∧ f p.2 p.2 = some true) → dictEq f fs es = some true
  | [], _ => rfl
  | p :: r, h => by
    unfold dictEq
    rw [(h p (.head _)).1]
    dsimp only
    rw [(h p (.head _)).2, dictEq_self fun q hq => h q (.tail _ hq)]
    rfl
theorem eq_dicts {a b : Addr} {es : List (Int × V)} {ep ep' : Nat} (g : Good es) (o : Oct es) (ha : σ a = some (.dict es ep)) (sa : P1.stat a = none) (hb : σ b = some (.dict es ep')) (sb : P1.stat b = none) : eqT (look (P1.gx n) σ) (.ref a) (.ref b) = some true := by
  unfold eqT
  dsimp only
  rw [look_dyn sa, look_dyn sb, ha, hb]
  dsimp only
  rw [if_pos rfl]
  refine dictEq_self fun p hp => ⟨getE_self g.nodup hp, ?_⟩
  obtain ⟨z, hz⟩ := o p hp
  rw [hz]; exact eq_atom rfl
theorem two_in {a s1 s2 : PySem.Str} {q : Bool → Sto → Prop} {x c : Addr} {F : Fil} (h0 : ε[0]? = some (some (.ref x))) (hx : IsF σ x c F) (ha : F.mode = a) (hin : a = s1 ∨ a = s2) (h : ∀ σ', Kp [] σ σ' → IsF σ' x c F → q false σ') : wpC (P1.gx n) (.cmp .notIn (.attr (.var 0) 1) (.tup (.cons (.str s1) (.cons (.str s2) .nil)))) q ε σ := by
  rw [c_cmp]
  refine get_at h0 hx rfl ?_
  rw [e_tup, es_cons, e_str, es_cons, e_str, es_nil]
  intro l hl
  refine ⟨true, ?_, h _ (Kp.new hl.1) (Keep.new (X := []) hl.1 x _ (fun z => nomatch z) hx)⟩
  unfold inV
  dsimp only
  rw [look_dyn hl.2, Sto.set_self, ha]
  show some ((s1 == a) || ((s2 == a) || false)) = some true
  rcases hin with rfl | rfl
  · simp
  · simp
theorem int_lt {a b : Int} {Γ : Gx} {q : Bool → Sto → Prop} (h : q (decide (a < b)) σ) : opW Γ .lt (.int a) (.int b) q σ := h
noncomputable def wrt (F : Fil) (es : List (Int × V)) (k : Int) (b : Array UInt8) : Fil × List (Int × V) × PySem.Str :=
  if (getE k es).isSome = true then ({ F with last := 0 }, es, "22") else ({ F with last := 0, number := k }, putE k (.bytes b) es, "00")
theorem sp_write {x c : Addr} {F : Fil} {es : List (Int × V)} {ep : Nat} {k : Int} {b : Array UInt8} {xs : List V} {q : Post} (hxs : fillA 3 [.int 0] xs = some [.ref x, .bytes b, .int k]) (hx : IsF σ x c F) (hm : F.mode = "i-o") (ha : F.access = "dynamic") (hk : 0 < k) (hc : σ c = some (.dict es ep)) (hs : P1.stat c = none) (hz : es.length ≤ 60)
    (h : ∀ σ' ep', IsF σ' x c (wrt F es k b).1 → σ' c = some (.dict (wrt F es k b).2.1 ep') → Kp [c] σ σ' → q (.str (wrt F es k b).2.2) σ') : fnW P1 (n + 1) 135 xs q σ := by
  have ne : c ≠ x := fun z => by rw [z] at hc; rw [hx] at hc; cases hc
  refine ⟨_, hxs, ?_⟩
  show wpSs (P1.gx n) b_write _ _ _
  rw [ss_cons_, s_asg, e_int]
  refine put_at rfl hx (by simp [Fil.vs]) ?_
  have hx1 : IsF (σ.set x (.inst 166 (putF (F.vs c) 7 (.int 0)))) x c { F with last := 0 } := by
    show (Sto.set _ x _) x = _
    rw [Sto.set_self]; rfl
  have hc1 : (σ.set x (.inst 166 (putF (F.vs c) 7 (.int 0)))) c = some (.dict es ep) := by rw [Sto.set_ne _ _ ne]; exact hc
  have k1 : Kp [] σ (σ.set x (.inst 166 (putF (F.vs c) 7 (.int 0)))) := Kp.put hx (fun z => z)
  generalize σ.set x (.inst 166 (putF (F.vs c) 7 (.int 0))) = τ at *
  dsimp only
  rw [ss_cons_, s_ite, c_cmp]
  refine get_at rfl hx1 rfl ?_
  rw [e_str]
  refine str_eq ?_
  have e : (F.access == ("sequential" : PySem.Str)) = false := by rw [ha]; decide +kernel
  dsimp only
  rw [e, if_neg (by decide), ss_cons_, s_ite]
  refine two_in rfl hx1 hm (.inr rfl) fun τ1 k2 hx2 => ?_
  have hc2 := k2.dict hc1
  have kp := k1.trans k2
  rw [if_neg (by decide), ss_nil_]
  dsimp only
  rw [ss_nil_]
  dsimp only
  rw [ss_cons_, s_ite, c_or, c_cmp, e_var]
  refine ⟨_, rfl, ?_⟩
  rw [e_int]
  show if decide (k < 1) = true then _ else _
  rw [if_neg (by simp; omega), c_chain, e_int]
  refine get_at rfl hx2 rfl ?_
  refine int_lt ?_
  rw [show decide ((0 : Int) < 0) = false from rfl]
  rw [if_neg (by decide), if_neg (by decide), ss_nil_]
  dsimp only
  unfold wrt at h
  rw [ss_cons_, s_ite, c_cmp, e_var]
  refine ⟨_, rfl, get_at rfl hx2 rfl (in_dict hc2 hs ?_)⟩
  by_cases hg : (getE k es).isSome = true
  · rw [if_pos hg] at h
    rw [if_pos hg, ss_cons_, s_ret, e_str]
    exact h τ1 ep hx2 hc2 kp.weak
  · rw [if_neg hg] at h
    rw [if_neg hg, ss_nil_]
    dsimp only
    rw [ss_cons_, s_asg, e_bi, e_var]
    refine ⟨_, rfl, ?_⟩
    show wpT (P1.gx n) _ (.bytes b) _ _ τ1
    rw [t_sub]
    refine get_at rfl hx2 rfl ?_
    rw [e_var]
    refine ⟨_, rfl, c, k, es, ep, rfl, rfl, hc2, by omega, fun ep' => ?_⟩
    have k3 : Keep [c] τ1 (τ1.set c (.dict (putE k (.bytes b) es) ep')) := keep_set hc2
    have hx3 := k3 x _ (by simpa using ne.symm) hx2
    have hc3 : (τ1.set c (.dict (putE k (.bytes b) es) ep')) c = some (.dict (putE k (.bytes b) es) ep') := Sto.set_self _ _ _
    have kp3 := k3.kpd hc2 hc3
    generalize τ1.set c (.dict (putE k (.bytes b) es) ep') = τ2 at *
    dsimp only
    rw [ss_cons_, s_asg, e_var]
    refine ⟨_, rfl, put_at rfl hx3 (by simp [Fil.vs]) ?_⟩
    dsimp only
    rw [ss_cons_, s_ret, e_str]
    refine h _ ep' ?_ ?_ ((kp.weak.trans kp3).trans (Kp.put hx3 (fun z => z)))
    · show (Sto.set _ x _) x = _
      rw [Sto.set_self]; rfl
    · rw [Sto.set_ne _ _ ne]; exact hc3
theorem read_at {x c : Addr} {F : Fil} {es : List (Int × V)} {ep : Nat} {i j o : Nat} {q : PostF} (ho : ε[o]? = some (some (.ref x))) (hi : i < ε.length) (hj : j < ε.length) (hx : IsF σ x c F) (hsx : P1.stat x = none) (hc : σ c = some (.dict es ep)) (hs : P1.stat c = none) (hz : es.length ≤ 60) (ha : F.access = "sequential" ∨ F.access = "dynamic")
    (h : ∀ σ', IsF σ' x c (rnx F (sortI (keys es))).1 → σ' c = some (.dict es ep) → Kp [] σ σ' → q .next ((ε.set i (some (.str (rnx F (sortI (keys es))).2.1))).set j (some (rowOf es (rnx F (sortI (keys es))).2.2))) σ') :
    wpS (P1.gx (n + 2)) (.asg (.tup (.cons (.var i) (.cons (.var j) .nil))) (.meth (.var o) 3 .nil)) q ε σ := by
  have ne : c ≠ x := fun z => by rw [z] at hc; rw [hx] at hc; cases hc
  rw [s_asg, e_meth, e_var]
  refine ⟨.ref x, ho, ⟨x, _, rfl, hx⟩, ?_⟩
  rw [es_nil]
  refine sp_next (n := n) hx hsx hc hs hz ha fun σ' t A => ?_
  rw [t_tup]
  refine ⟨t, _, rfl, (look_dyn A.2.2.1).trans A.2.1, rfl, ?_⟩
  refine ⟨_, _, rfl, hi, _, _, rfl, by rw [List.length_set]; exact hj, rfl, ?_⟩
  exact h σ' A.1 (A.2.2.2 c _ (by simpa using ne) hc) (A.2.2.2.kpx hx A.1)
theorem app_at {i : Nat} {l : Addr} {e : PE} {q : PostF} {m : Nat} {vs : List V} (hi : ε[i]? = some (some (.ref l))) (hl : σ l = some (.list true vs))
    (h : wpE (P1.gx m) e (fun y σ' => ∃ xs, σ' l = some (.list true xs) ∧ xs.length ≤ 10000 ∧ ((∀ a, V.none ≠ .ref a) ∧ q .next ε (σ'.set l (.list true (xs ++ [y]))))) ε σ) : wpS (P1.gx m) (.expr (.bm (.var i) .append (.cons e .nil))) q ε σ := by
  rw [s_expr, e_bm, e_var]
  refine ⟨.ref l, hi, ⟨vs, hl⟩, ?_⟩
  rw [es_cons]
  exact h
end Mine
end
section
open PySem
set_option Elab.async false
set_option maxRecDepth 100000
namespace Mine
variable {n : Nat} {σ σ' : Sto} {ε : Env0}
theorem get_v {i f : Nat} {x : Addr} {fs : List V} {y : V} {q : Post} (h0 : ε[i]? = some (some (.ref x))) (hx : σ x = some (.inst 166 fs)) (hi : fs[f]? = some y) (h : q y σ) : wpE (P1.gx n) (.attr (.var i) f) q ε σ := ⟨.ref x, h0, x, fs, y, rfl, hx, hi, h⟩
noncomputable def Rd (K : List Int) (F : Fil) (rest : List Int) : Prop := F.valid = true ∧ onward K (if F.behind then F.place + 1 else F.place) = rest
theorem mode_io {F : Fil} (h : F.mode = "i-o") : modeIn F = true := by unfold modeIn; rw [h]; decide +kernel
theorem onward_all : ∀ {ks : List Int} {low : Int}, (∀ k ∈ ks, low ≤ k) → onward ks low = ks := fun h => by
  unfold onward
  exact List.filter_eq_self.mpr fun k hk => by simpa using h k hk
theorem onward_mem {K : List Int} {low k : Int} {r : List Int} (h : onward K low = k :: r) : k ∈ K := (List.mem_filter.mp (show k ∈ K.filter _ by unfold onward at h; rw [h]; exact .head _)).1
theorem rnx_cons {K : List Int} {F : Fil} {k : Int} {r : List Int} (hK : ∀ k ∈ K, 0 < k) (hm : F.mode = "i-o") (h : Rd K F (k :: r)) : rnx F K = ({ F with place := k, behind := true, valid := true, last := k, number := k }, ("00" : PySem.Str), some k) := by
  have hk := hK k (onward_mem h.2)
  unfold rnx
  rw [if_neg (by simp [mode_io hm]), if_neg (by simp [h.1]), least_onward, h.2]
  show (if k = 0 then _ else _) = _
  rw [if_neg (by omega)]; rfl
theorem rnx_nil {K : List Int} {F : Fil} (hm : F.mode = "i-o") (h : Rd K F []) : rnx F K = ({ F with last := 0, valid := false }, ("10" : PySem.Str), (none : Option Int)) := by
  unfold rnx
  rw [if_neg (by simp [mode_io hm]), if_neg (by simp [h.1]), least_onward, h.2]
  rfl
theorem rnx_off {K : List Int} {F : Fil} (hm : F.mode = "i-o") (h : F.valid = false) : rnx F K = ({ F with last := 0 }, ("46" : PySem.Str), (none : Option Int)) := by
  unfold rnx
  rw [if_neg (by simp [mode_io hm]), if_pos h]
theorem Rd.next {K : List Int} {F : Fil} {k : Int} {r : List Int} (hs : K.Pairwise (· < ·)) (h : Rd K F (k :: r)) : onward K (k + 1) = r := onward_next hs h.2
theorem rwr_none {F : Fil} {es : List (Int × V)} {k : Int} {b : Array UInt8} (ha : F.access = "sequential") (hl : F.last = 0) : rwr F es k b = ({ F with last := 0 }, es, ("43" : PySem.Str)) := by
  have e : chs F es k = (("43" : PySem.Str), 0) := by unfold chs; rw [if_pos (by rw [ha]; decide +kernel), if_neg (by omega)]
  unfold rwr
  rw [e, if_neg (by decide +kernel)]
theorem delF_seq {F : Fil} {es : List (Int × V)} {k : Int} (ha : F.access = "sequential") (hl : 0 < F.last) : delF F es k = ({ F with last := 0 }, delE F.last es, ("00" : PySem.Str)) := by
  have e : chs F es k = (("00" : PySem.Str), F.last) := by unfold chs; rw [if_pos (by rw [ha]; decide +kernel), if_pos hl]
  unfold delF
  rw [e, if_pos (show (("00" : PySem.Str) == ("00" : PySem.Str)) = true by decide +kernel)]
theorem chs_none {F : Fil} {es : List (Int × V)} {k : Int} (ha : F.access = "sequential") (hl : F.last = 0) : chs F es k = (("43" : PySem.Str), 0) := by unfold chs; rw [if_pos (by rw [ha]; decide +kernel), if_neg (by omega)]
theorem delF_none {F : Fil} {es : List (Int × V)} {k : Int} (ha : F.access = "sequential") (hl : F.last = 0) : delF F es k = ({ F with last := 0 }, es, ("43" : PySem.Str)) := by
  unfold delF
  rw [chs_none ha hl, if_neg (by decide +kernel)]
theorem chs_there {F : Fil} {es : List (Int × V)} {k : Int} (ha : F.access = "random" ∨ F.access = "dynamic") (hk : k ∈ keys es) : chs F es k = (("00" : PySem.Str), k) := by unfold chs; rw [if_neg (by rcases ha with ha | ha <;> rw [ha] <;> decide +kernel), if_pos (isSome_getE.mpr hk)]
theorem chs_not {F : Fil} {es : List (Int × V)} {k : Int} (ha : F.access = "random" ∨ F.access = "dynamic") (hk : k ∉ keys es) : chs F es k = (("23" : PySem.Str), 0) := by unfold chs; rw [if_neg (by rcases ha with ha | ha <;> rw [ha] <;> decide +kernel), if_neg (fun z => hk (isSome_getE.mp z))]
noncomputable def delS (es : List (Int × V)) (k : Int) : PySem.Str := if k ∈ keys es then "00" else "23"
theorem delF_num {F : Fil} {es : List (Int × V)} {k : Int} (g : Good es) (ha : F.access = "random" ∨ F.access = "dynamic") : delF F es k = ({ F with last := 0 }, delK [k] es, delS es k) := by
  unfold delF delS
  by_cases hk : k ∈ keys es
  · rw [chs_there ha hk, if_pos (show (("00" : PySem.Str) == ("00" : PySem.Str)) = true by decide +kernel), if_pos hk]
    have := delK_del (ks := []) (k := k) g.nodup
    rw [delK_nil] at this
    rw [this]; rfl
  · rw [chs_not ha hk, if_neg (by decide +kernel), if_neg hk]
    have := delK_skip (ks := []) (es := es) (k := k) (by rw [delK_nil]; exact hk)
    rw [delK_nil] at this
    rw [show delK [k] es = es from this]
theorem del_get {F : Fil} {es : List (Int × V)} {k : Int} (oc : Oct es) (ha : F.access = "random" ∨ F.access = "dynamic") (h : ((chs F es k).1 == ("00" : PySem.Str)) = true) : ∃ b, getE (chs F es k).2 es = some (.bytes b) := by
  by_cases hk : k ∈ keys es
  · rw [chs_there ha hk]; exact oc.get hk
  · rw [chs_not ha hk] at h; exact absurd h (by decide +kernel)
theorem delK_two {ks : List Int} {es : List (Int × V)} {k : Int} : delK [k] (delK ks es) = delK (ks ++ [k]) es := by
  unfold delK
  rw [List.filter_filter]
  refine List.filter_congr fun p _ => ?_
  simp [and_comm]
theorem sortI_length {ks : List Int} : (sortI ks).length = ks.length := by unfold sortI; exact List.length_mergeSort _
theorem keys_length {es : List (Int × V)} : (keys es).length = es.length := by unfold keys; rw [List.length_map]
theorem iniN_io {es : List (Int × V)} : iniN "i-o" es = 0 := by unfold iniN; rw [if_neg (by decide +kernel)]
theorem IsF.ne_list {x c l : Addr} {F : Fil} {m : Bool} {vs : List V} (h : IsF σ x c F) (hl : σ l = some (.list m vs)) : x ≠ l := fun e => by
  unfold IsF at h
  rw [e, hl] at h; cases h
theorem IsF.ne_dict {x c d : Addr} {F : Fil} {es : List (Int × V)} {ep : Nat} (h : IsF σ x c F) (hl : σ d = some (.dict es ep)) : x ≠ d := fun e => by
  unfold IsF at h
  rw [e, hl] at h; cases h
theorem e_fnW {m : Nat} {f : Addr} {args : PEs} {q : Post} : wpE (P1.gx m) (.fn f args) q ε σ = wpEs (P1.gx m) args (fun xs σ' => fnW P1 m f xs q σ') ε σ := rfl
noncomputable def emptF (es : List (Int × V)) : List Int → List Int → List V
  | [], _ => []
  | k :: r, dn => .str (delS (delK dn es) k) :: emptF es r (dn ++ [k])
theorem empt_comp {c o x : Addr} {es : List (Int × V)} {xs : List V} {q : List V → Sto → Prop} (g : Good es) (oc : Oct es) (hsc : P1.stat c = none) (hso : P1.stat o = none) : ∀ (ks dn : List Int) (z : Option V) (acc : List V) (τ : Sto) (ep : Nat) (F : Fil),
    F.mode = "i-o" → F.access = "random" → IsF τ x c F → τ c = some (.dict (delK dn es) ep) → τ o = some (.list true xs) → (∀ τ' ep', Kp [c] τ τ' → τ' c = some (.dict (delK (dn ++ ks) es) ep') → q (acc ++ emptF es ks dn) τ') →
    goComp (P1.gx (n + 2)) (wpE (P1.gx (n + 2)) (.meth (.var 2) 7 (.cons (.var 3) .nil))) (wpC (P1.gx (n + 2)) .tru) 3 o (.list true xs) q (ks.map .int) acc [some (.ref c), some (.ref o), some (.ref x), z] τ
  | [], dn, z, acc, τ, ep, F, hm, ha, hx, hc, ho, h => ⟨(look_dyn hso).trans ho, by have := h τ ep Kp.refl (by rw [List.append_nil]; exact hc); rw [show emptF es [] dn = [] from rfl, List.append_nil] at this; exact this⟩
  | k :: ks, dn, z, acc, τ, ep, F, hm, ha, hx, hc, ho, h => by
    have ne : o ≠ c := fun e => by rw [e, hc] at ho; cases ho
    refine ⟨(look_dyn hso).trans ho, ?_⟩
    show wpE (P1.gx (n + 2)) (.meth (.var 2) 7 (.cons (.var 3) .nil)) _ [some (.ref c), some (.ref o), some (.ref x), some (.int k)] τ
    rw [e_meth, e_var]
    refine ⟨.ref x, rfl, ⟨x, _, rfl, hx⟩, ?_⟩
    rw [es_cons, e_var]
    refine ⟨.int k, rfl, ?_⟩
    rw [es_nil]
    refine sp_delete (k := k) rfl hx hm hc hsc g.delK.few (del_get oc.delK (.inl ha)) fun τ1 ep1 hx1 hc1 k1 => ?_
    rw [delF_num g.delK (.inl ha)] at hx1 hc1 ⊢
    dsimp only at hx1 hc1 ⊢
    rw [delK_two] at hc1
    refine empt_comp g oc hsc hso ks (dn ++ [k]) _ _ τ1 ep1 _ ?_ ?_ hx1 hc1 (k1.list ho (by simpa using ne)) fun τ' ep' k2 hc2 => ?_
    · exact hm
    · exact ha
    · have := h τ' ep' (k1.trans k2) (by rw [List.append_assoc] at hc2; exact hc2)
      rw [List.append_assoc]
      exact this
theorem sp_emptied {c o : Addr} {es : List (Int × V)} {ep : Nat} {N : List Int} {q : Post} (g : Good es) (oc : Oct es) (hc : σ c = some (.dict es ep)) (hsc : P1.stat c = none) (ho : σ o = some (.list true (N.map .int))) (hso : P1.stat o = none) (hlen : N.length ≤ 100)
    (h : ∀ σ' l ep', σ' l = some (.list true (emptF es N [])) → P1.stat l = none → σ' c = some (.dict (delK N es) ep') → Kp [c] σ σ' → q (.ref l) σ') : fnW P1 (n + 4) 211 [.ref c, .ref o] q σ := by
  refine ⟨_, rfl, ?_⟩
  show wpSs (P1.gx (n + 3)) b_law_emptied _ _ _
  rw [ss_cons_, s_asg, e_fnW, es_cons, e_var]
  refine ⟨.ref c, rfl, ?_⟩
  rw [es_cons, e_str, es_cons, e_str, es_nil]
  refine sp_file hc hsc g.few (fun z => absurd z (by decide +kernel)) fun σ1 x ep1 hx1 hsx hc1 s1 σx => ?_
  rw [if_neg (by decide +kernel)] at hc1
  have k1 : Kp [c] σ σ1 := s1.kpd hc hc1
  have hoc : o ≠ c := fun e => by rw [e, hc] at ho; cases ho
  have ho1 := k1.list ho (by simpa using hoc)
  rw [t_var]
  refine ⟨by simp, ?_⟩
  show wpSs (P1.gx (n + 3)) _ (retW q) [some (.ref c), some (.ref o), some (.ref x)] σ1
  rw [ss_cons_, s_ret, e_comp, e_var]
  refine ⟨.ref o, rfl, o, _, _, rfl, (look_dyn hso).trans ho1, rfl, by rw [List.length_map]; omega, ?_⟩
  refine empt_comp (n := n + 1) g oc hsc hso N [] none [] σ1 ep1 _ rfl rfl hx1 (by rw [delK_nil]; exact hc1) ho1 fun τ ep' k2 hc2 => ?_
  intro l hl
  refine h _ l ep' (Sto.set_self _ _ _) hl.2 ((Kp.new (X := []) hl.1).dict hc2) ((k1.trans k2).trans (Kp.new hl.1))
end Mine
end
section
open PySem
set_option Elab.async false
set_option maxRecDepth 100000
namespace Mine
variable {n : Nat} {σ σ' : Sto} {ε : Env0}
theorem sorted_ext : ∀ {A B : List Int}, A.Pairwise (· < ·) → B.Pairwise (· < ·) → (∀ x, x ∈ A ↔ x ∈ B) → A = B
  | [], [], _, _, _ => rfl
  | [], b :: B, _, _, h => nomatch (h b).mpr (.head _)
  | a :: A, [], _, _, h => nomatch (h a).mp (.head _)
  | a :: A, b :: B, ha, hb, h => by
    obtain ⟨a1, a2⟩ := List.pairwise_cons.mp ha
    obtain ⟨b1, b2⟩ := List.pairwise_cons.mp hb
    have e : a = b := by
      rcases List.mem_cons.mp ((h a).mp (.head _)) with z | z
      · exact z
      · rcases List.mem_cons.mp ((h b).mpr (.head _)) with w | w
        · exact w.symm
        · have := b1 a z; have := a1 b w; omega
    subst e
    congr 1
    refine sorted_ext a2 b2 fun x => ⟨fun hx => ?_, fun hx => ?_⟩
    · rcases List.mem_cons.mp ((h x).mp (.tail _ hx)) with z | z
      · subst z; have := a1 x hx; omega
      · exact z
    · rcases List.mem_cons.mp ((h x).mpr (.tail _ hx)) with z | z
      · subst z; have := b1 x hx; omega
      · exact z
theorem sortI_sorted {ks : List Int} (h : ks.Nodup) : (sortI ks).Pairwise (· < ·) := by
  have h1 : (sortI ks).Perm ks := List.mergeSort_perm _ _
  have h2 : (sortI ks).Pairwise fun a b => decide (a ≤ b) = true := List.pairwise_mergeSort (fun a b c x y => by simp at *; omega) (fun a b => by simp; omega) _
  have h3 : (sortI ks).Nodup := h1.nodup_iff.mpr h
  have h4 : (sortI ks).Pairwise (· ≠ ·) := h3
  exact (h2.and h4).imp fun ⟨a, b⟩ => by simp at a; omega
theorem sortI_ext {A B : List Int} (ha : A.Nodup) (hb : B.Nodup) (h : ∀ x, x ∈ A ↔ x ∈ B) : sortI A = sortI B :=
  sorted_ext (sortI_sorted ha) (sortI_sorted hb) fun x => by rw [mem_sortI, mem_sortI]; exact h x
theorem onward_same {A B : List Int} {low : Int} (ha : A.Pairwise (· < ·)) (hb : B.Pairwise (· < ·)) (h : ∀ x, low ≤ x → (x ∈ A ↔ x ∈ B)) : onward A low = onward B low := by
  unfold onward
  refine sorted_ext (ha.sublist List.filter_sublist) (hb.sublist List.filter_sublist) fun x => ?_
  rw [List.mem_filter, List.mem_filter]
  by_cases z : low ≤ x
  · rw [h x z]
  · simp [z]
theorem memV_ints {k : Int} : ∀ {N : List Int}, memV (.int k) (N.map .int) = some (decide (k ∈ N))
  | [] => by simp [memV]
  | j :: N => by
    show memV (.int k) (.int j :: N.map .int) = _
    unfold memV
    rw [memV_ints (N := N), show eqV (fun _ => none) 0 (.int j) (.int k) = some (j == k) by simp [eqV]]
    simp only [List.mem_cons, Option.some.injEq]
    by_cases e : k = j
    · subst e; simp
    · simp [e, Ne.symm e]
theorem in_ints {o : Addr} {m : Bool} {N : List Int} {k : Int} {q : Bool → Sto → Prop} (ho : σ o = some (.list m (N.map .int))) (hs : P1.stat o = none) (h : q (decide (k ∈ N)) σ) : opW (P1.gx n) .isIn (.int k) (.ref o) q σ := by
  refine ⟨_, ?_, h⟩
  unfold inV
  dsimp only
  rw [look_dyn hs, ho]
  exact memV_ints
theorem notin_ints {o : Addr} {m : Bool} {N : List Int} {k : Int} {q : Bool → Sto → Prop} (ho : σ o = some (.list m (N.map .int))) (hs : P1.stat o = none) (h : q (!decide (k ∈ N)) σ) : opW (P1.gx n) .notIn (.int k) (.ref o) q σ := by
  refine ⟨_, ?_, h⟩
  unfold inV
  dsimp only
  rw [look_dyn hs, ho]
  exact memV_ints
theorem chs_seq {F : Fil} {es : List (Int × V)} {k : Int} (ha : F.access = "sequential") (hl : 0 < F.last) : chs F es k = (("00" : PySem.Str), F.last) := by unfold chs; rw [if_pos (by rw [ha]; decide +kernel), if_pos hl]
noncomputable def goneIt (k : Int) : It := .tup [.int k, .str "00"]
@[reducible] noncomputable def sweepBody : PSs := .cons (.ite (.cmp .isIn (.attr (.var 2) 8) (.var 1)) (.cons (.expr (.bm (.var 3) .append (.cons (.tup (.cons (.attr (.var 2) 8) (.cons (.meth (.var 2) 7 (.nil)) .nil))) .nil))) (.cons (.ite (.or (.cmp .ne (.meth (.var 2) 7 (.nil)) (.str "43")) (.cmp .ne (.meth (.var 2) 6 (.cons (.bytes [103, 111, 110, 101]) .nil)) (.str "43"))) (.cons (.expr (.bm (.var 4) .append (.cons (.attr (.var 2) 8) .nil))) .nil) (.nil)) .nil)) (.nil)) (.cons (.asg (.tup (.cons (.var 5) (.cons (.var 6) .nil))) (.meth (.var 2) 3 (.nil))) .nil)
theorem sweep_loop {c o x l d : Addr} {es : List (Int × V)} {N : List Int} (g : Good es) (oc : Oct es) (hsc : P1.stat c = none) (hso : P1.stat o = none) (hsx : P1.stat x = none) {q : PostF} :
    ∀ (m : Nat) (rest : List Int) (F : Fil) (dn : List Int) (vs : List V) (its : List It) (oct : V) (τ : Sto) (ep : Nat), rest.length < m → Rd (sortI (keys (delK dn es))) F rest → F.mode = "i-o" → F.access = "sequential" → IsF τ x c (rnx F (sortI (keys (delK dn es)))).1 →
      τ c = some (.dict (delK dn es) ep) → τ o = some (.list true (N.map .int)) → o ≠ l → τ l = some (.list true vs) → Its τ vs its → vs.length + rest.length ≤ 200 →
      (∀ τ' vs' oct' ep'', τ' l = some (.list true vs') → Its τ' vs' (its ++ (rest.filter fun k => decide (k ∈ N)).map goneIt) → τ' c = some (.dict (delK (dn ++ rest.filter fun k => decide (k ∈ N)) es) ep'') → Kp [c, l] τ τ' → q .next [some (.ref c), some (.ref o), some (.ref x), some (.ref l), some (.ref d), some (.str "10"), some oct'] τ') →
      goWhile (wpC (P1.gx (n + 2)) (.cmp .eq (.var 5) (.str "00"))) (wpSs (P1.gx (n + 2)) sweepBody) q m [some (.ref c), some (.ref o), some (.ref x), some (.ref l), some (.ref d), some (.str (rnx F (sortI (keys (delK dn es)))).2.1), some oct] τ := by
  intro m
  induction m with
  | zero => intro rest _ _ _ _ _ _ _ h; exact absurd h (Nat.not_lt_zero _)
  | succ m ih =>
    intro rest F dn vs its oct τ ep hm hrd hmode hacc hx hc ho nol hl hits hlen hq
    have gd : Good (delK dn es) := g.delK
    have hK : ∀ k ∈ sortI (keys (delK dn es)), 0 < k := fun k h => gd.spos h
    have nlc : l ≠ c := fun e => by rw [e, hc] at hl; cases hl
    have noc : o ≠ c := fun e => by rw [e, hc] at ho; cases ho
    show wpC (P1.gx (n + 2)) _ _ _ _
    rw [c_cmp, e_var]
    refine ⟨.str _, rfl, ?_⟩
    rw [e_str]
    refine str_eq ?_
    cases rest with
    | nil =>
      rw [rnx_nil hmode hrd] at hx ⊢
      dsimp only
      rw [if_neg (by decide +kernel)]
      exact hq τ vs _ ep hl (by simpa using hits) (by simpa using hc) Kp.refl
    | cons k r =>
      have hk0 : 0 < k := hK k (onward_mem hrd.2)
      have hkes : k ∈ keys (delK dn es) := mem_sortI.mp (onward_mem hrd.2)
      have hnx := hrd.next gd.sorted
      rw [rnx_cons hK hmode hrd] at hx ⊢
      dsimp only
      rw [if_pos (show (("00" : PySem.Str) == ("00" : PySem.Str)) = true by decide +kernel)]
      rw [ss_cons_, s_ite, c_cmp]
      refine get_v rfl hx rfl ?_
      rw [e_var]
      refine ⟨.ref o, rfl, in_ints ho hso ?_⟩
      have tail : ∀ (Q : PostF), (∀ ε' σ'', Q .next ε' σ'' = goWhile (wpC (P1.gx (n + 2)) (.cmp .eq (.var 5) (.str "00"))) (wpSs (P1.gx (n + 2)) sweepBody) q m ε' σ'') → ∀ (F' : Fil) (dn' : List Int) (vs' : List V) (its' : List It) (τ' : Sto) (ep' : Nat), IsF τ' x c F' → F'.mode = "i-o" → F'.access = "sequential" → F'.valid = true → F'.behind = true → F'.place = k →
          τ' c = some (.dict (delK dn' es) ep') → τ' o = some (.list true (N.map .int)) → τ' l = some (.list true vs') → Its τ' vs' its' → vs'.length ≤ vs.length + 1 → (∀ j, k + 1 ≤ j → (j ∈ dn' ↔ j ∈ dn)) → its' ++ (r.filter fun k => decide (k ∈ N)).map goneIt = its ++ ((k :: r).filter fun k => decide (k ∈ N)).map goneIt → dn' ++ r.filter (fun k => decide (k ∈ N)) = dn ++ (k :: r).filter (fun k => decide (k ∈ N)) → Kp [c, l] τ τ' →
          wpSs (P1.gx (n + 2)) (.cons (.asg (.tup (.cons (.var 5) (.cons (.var 6) .nil))) (.meth (.var 2) 3 (.nil))) .nil) Q [some (.ref c), some (.ref o), some (.ref x), some (.ref l), some (.ref d), some (.str "00"), some oct] τ' := by
        intro Q hQ F' dn' vs' its' τ' ep' hx' hm' ha' hv' hb' hp' hc' ho' hl' hits' hlen' hdn e1 e2 kp
        rw [ss_cons_]
        refine read_at (i := 5) (j := 6) (o := 2) rfl (by simp) (by simp) hx' hsx hc' hsc g.delK.few (.inl ha') fun σ' h1 h2 k1 => ?_
        dsimp only
        rw [ss_nil_, hQ]
        have same : onward (sortI (keys (delK dn' es))) (k + 1) = r := by
          rw [← hnx]
          refine onward_same (Good.sorted (g.delK (ks := dn'))) gd.sorted fun j hj => ?_
          rw [mem_sortI, mem_sortI]
          show j ∈ keys (delK dn' es) ↔ j ∈ keys (delK dn es)
          rw [mem_delK, mem_delK, hdn j hj]
        refine ih r F' dn' vs' its' _ σ' _ (by simp at hm; omega) ⟨hv', by simp only [hb', hp', if_true]; exact same⟩ hm' ha' h1 h2 (k1.list ho') nol (k1.list hl') (hits'.keep k1) (by simp at hlen; omega) fun τ'' vs'' oct' ep'' b1 b2 b3 b4 => ?_
        exact hq τ'' vs'' oct' ep'' b1 (e1 ▸ b2) (e2 ▸ b3) ((kp.trans k1.weak).trans b4)
      by_cases hk : k ∈ N
      · have hf : (k :: r).filter (fun k => decide (k ∈ N)) = k :: r.filter (fun k => decide (k ∈ N)) := List.filter_cons_of_pos (by simpa using hk)
        rw [if_pos (by simpa using hk), ss_cons_]
        refine app_at (i := 3) (vs := vs) rfl hl ?_
        rw [e_tup, es_cons]
        refine get_v rfl hx rfl ?_
        rw [es_cons, e_meth, e_var]
        refine ⟨.ref x, rfl, ⟨x, _, rfl, hx⟩, ?_⟩
        rw [es_nil]
        refine sp_delete (k := 0) rfl hx hmode hc hsc gd.few (fun _ => by rw [chs_seq (F := { F with place := k, behind := true, valid := true, last := k, number := k }) hacc hk0]; exact oc.delK.get hkes) fun τ1 ep1 hx1 hc1 k1 => ?_
        rw [delF_seq (F := { F with place := k, behind := true, valid := true, last := k, number := k }) hacc hk0] at hx1 hc1 ⊢
        dsimp only at hx1 hc1 ⊢
        rw [delK_del g.nodup] at hc1
        have ho1 := k1.list ho (by simpa using noc)
        have hl1 := k1.list hl (by simpa using nlc)
        have its1 := hits.keep k1
        rw [es_nil]
        intro t ht
        have k2 : Kp [] τ1 (τ1.set t (.tup [.int k, .str "00"])) := Kp.new ht.1
        have hx2 := Keep.new (X := []) ht.1 (o := .tup [.int k, .str "00"]) x _ (fun z => nomatch z) hx1
        have hc2 := k2.dict hc1
        have ho2 := k2.list ho1
        have hl2 := k2.list hl1
        have ht2 : (τ1.set t (.tup [.int k, .str "00"])) t = some (.tup [.int k, .str "00"]) := Sto.set_self _ _ _
        have its2 := its1.keep k2
        have kk2 : Kp [c] τ _ := k1.trans k2.weak
        show ∃ xs, (τ1.set t (.tup [.int k, .str "00"])) l = some (.list true xs) ∧ _
        generalize τ1.set t (.tup [.int k, .str "00"]) = τ2 at *
        refine ⟨vs, hl2, by omega, (fun _ => nofun), ?_⟩
        have nxl : x ≠ l := IsF.ne_list hx2 hl2
        have s3 : Keep [l] τ2 (τ2.set l (.list true (vs ++ [.ref t]))) := keep_set hl2
        have k3 : Kp [c, l] τ2 (τ2.set l (.list true (vs ++ [.ref t]))) := Kp.put hl2 (by simp [keeps])
        have hx3 := s3 x _ (by simpa using nxl) hx2
        have hc3 := s3 c _ (by simpa using nlc.symm) hc2
        have ho3 := s3 o _ (by simpa using nol) ho2
        have hl3 : (τ2.set l (.list true (vs ++ [.ref t]))) l = some (.list true (vs ++ [.ref t])) := Sto.set_self _ _ _
        have its3 : Its (τ2.set l (.list true (vs ++ [.ref t]))) (vs ++ [.ref t]) (its ++ [goneIt k]) := (its2.keep k3).snoc (ItAt.of (k3.tup ht2) ht.2)
        have kk3 : Kp [c, l] τ _ := (kk2.mono (by simp)).trans k3
        generalize τ2.set l (.list true (vs ++ [.ref t])) = τ3 at *
        rw [ss_cons_, s_ite, c_or, c_cmp, e_meth, e_var]
        refine ⟨.ref x, rfl, ⟨x, _, rfl, hx3⟩, ?_⟩
        rw [es_nil]
        refine sp_delete (k := 0) rfl hx3 hmode hc3 hsc g.delK.few (fun z => by rw [chs_none (F := { F with place := k, behind := true, valid := true, last := 0, number := k }) hacc rfl] at z; exact absurd z (by decide +kernel)) fun τ4 ep4 hx4 hc4 k4 => ?_
        rw [delF_none (F := { F with place := k, behind := true, valid := true, last := 0, number := k }) hacc rfl] at hx4 hc4 ⊢
        dsimp only at hx4 hc4 ⊢
        rw [e_str]
        refine str_ne ?_
        rw [if_neg (by decide +kernel), c_cmp, e_meth, e_var]
        refine ⟨.ref x, rfl, ⟨x, _, rfl, hx4⟩, ?_⟩
        rw [es_cons, e_bytes, es_nil]
        refine sp_rewrite (k := 0) rfl hx4 hmode hc4 hsc g.delK.few fun τ5 ep5 hx5 hc5 k5 => ?_
        rw [rwr_none (F := { F with place := k, behind := true, valid := true, last := 0, number := k }) hacc rfl] at hx5 hc5 ⊢
        dsimp only at hx5 hc5 ⊢
        rw [e_str]
        refine str_ne ?_
        rw [if_neg (by decide +kernel), ss_nil_]
        dsimp only
        rw [ss_nil_]
        have k45 : Kp [c] τ3 τ5 := k4.trans k5
        refine tail _ (fun _ _ => rfl) _ (dn ++ [k]) _ (its ++ [goneIt k]) τ5 ep5 hx5 hmode hacc rfl rfl rfl hc5 (k45.list ho3 (by simpa using noc)) (k45.list hl3 (by simpa using nlc)) (its3.keep k45) (by simp) (fun j hj => ?_) (by rw [hf, List.map_cons, List.append_assoc]; rfl) (by rw [hf, List.append_assoc]; rfl) (kk3.trans (k45.mono (by simp)))
        rw [List.mem_append, List.mem_singleton]
        constructor
        · rintro (z | z)
          · exact z
          · omega
        · exact .inl
      · have hf : (k :: r).filter (fun k => decide (k ∈ N)) = r.filter (fun k => decide (k ∈ N)) := List.filter_cons_of_neg (by simpa using hk)
        rw [if_neg (by simpa using hk), ss_nil_]
        exact tail _ (fun _ _ => rfl) _ dn vs its τ ep hx hmode hacc rfl rfl rfl hc ho hl hits (by omega) (fun _ _ => Iff.rfl) (by rw [hf]) (by rw [hf]) Kp.refl
end Mine
end
section
open PySem
set_option Elab.async false
set_option maxRecDepth 100000
namespace Mine
variable {n : Nat} {σ σ' : Sto} {ε : Env0}
noncomputable def goneF (es : List (Int × V)) (N : List Int) : List It := ((sortI (keys es)).filter fun k => decide (k ∈ N)).map goneIt
theorem delK_swept {es : List (Int × V)} {N : List Int} : delK ((sortI (keys es)).filter fun k => decide (k ∈ N)) es = delK N es := delK_congr fun k hk => by
  rw [List.mem_filter, mem_sortI]; simp [hk]
theorem sp_swept {c o : Addr} {es : List (Int × V)} {ep : Nat} {N : List Int} {q : Post} (g : Good es) (oc : Oct es) (hc : σ c = some (.dict es ep)) (hsc : P1.stat c = none) (ho : σ o = some (.list true (N.map .int))) (hso : P1.stat o = none)
    (h : ∀ σ' t l d vs ep', σ' t = some (.tup [.ref l, .ref d, .str "10"]) → P1.stat t = none → σ' l = some (.list true vs) → P1.stat l = none → Its σ' vs (goneF es N) → σ' d = some (.list true []) → P1.stat d = none → σ' c = some (.dict (delK N es) ep') → Kp [c] σ σ' → q (.ref t) σ') : fnW P1 (n + 4) 206 [.ref c, .ref o] q σ := by
  refine ⟨_, rfl, ?_⟩
  show wpSs (P1.gx (n + 3)) b_law_swept _ _ _
  rw [ss_cons_, s_asg, e_tup, es_cons, e_fnW, es_cons, e_var]
  refine ⟨.ref c, rfl, ?_⟩
  rw [es_cons, e_str, es_cons, e_str, es_nil]
  refine sp_file hc hsc g.few (fun z => absurd z (by decide +kernel)) fun σ1 x ep1 hx1 hsx hc1 s1 σx => ?_
  rw [if_neg (by decide +kernel)] at hc1
  have k1 : Kp [c] σ σ1 := s1.kpd hc hc1
  have noc : o ≠ c := fun e => by rw [e, hc] at ho; cases ho
  have ho1 := k1.list ho (by simpa using noc)
  rw [es_cons, e_list, es_nil]
  intro l hl
  have hlc : l ≠ c := fun e => by have := hl.1; rw [e, hc1] at this; cases this
  have nol : o ≠ l := fun e => by have := hl.1; rw [← e, ho1] at this; cases this
  have σl : σ l = none := k1.2 l hl.1
  have k2 : Kp [] σ1 (σ1.set l (.list true [])) := Kp.new hl.1
  have hl2 : (σ1.set l (.list true [])) l = some (.list true []) := Sto.set_self _ _ _
  have hx2 := Keep.new (X := []) hl.1 (o := .list true []) x _ (fun z => nomatch z) hx1
  have hc2 := k2.dict hc1
  have ho2 := k2.list ho1
  generalize σ1.set l (.list true []) = σ2 at *
  rw [es_cons, e_list, es_nil]
  intro d hd
  have hdl : d ≠ l := fun e => by have := hd.1; rw [e, hl2] at this; cases this
  have hdc : d ≠ c := fun e => by have := hd.1; rw [e, hc2] at this; cases this
  have k3 : Kp [] σ2 (σ2.set d (.list true [])) := Kp.new hd.1
  have hd3 : (σ2.set d (.list true [])) d = some (.list true []) := Sto.set_self _ _ _
  have hx3 := Keep.new (X := []) hd.1 (o := .list true []) x _ (fun z => nomatch z) hx2
  have hc3 := k3.dict hc2
  have ho3 := k3.list ho2
  have hl3 := k3.list hl2
  generalize σ2.set d (.list true []) = σ3 at *
  rw [es_nil]
  intro t ht
  have k4 : Kp [] σ3 (σ3.set t (.tup [.ref x, .ref l, .ref d])) := Kp.new ht.1
  have ht4 : (σ3.set t (.tup [.ref x, .ref l, .ref d])) t = some (.tup [.ref x, .ref l, .ref d]) := Sto.set_self _ _ _
  have hx4 := Keep.new (X := []) ht.1 (o := .tup [.ref x, .ref l, .ref d]) x _ (fun z => nomatch z) hx3
  have hc4 := k4.dict hc3
  have ho4 := k4.list ho3
  have hl4 := k4.list hl3
  have hd4 := k4.list hd3
  generalize σ3.set t (.tup [.ref x, .ref l, .ref d]) = σ4 at *
  rw [t_rev]
  refine ⟨t, _, rfl, (look_dyn ht.2).trans ht4, rfl, ?_⟩
  show wpSs (P1.gx (n + 3)) _ (retW q) [some (.ref c), some (.ref o), some (.ref x), some (.ref l), some (.ref d), none, none] σ4
  have kk4 : Kp [c] σ σ4 := k1.trans ((k2.trans k3).trans k4).weak
  rw [ss_cons_, s_ite, c_cmp, e_meth, e_var]
  refine ⟨.ref x, rfl, ⟨x, _, rfl, hx4⟩, ?_⟩
  rw [es_nil]
  refine sp_delete (n := n + 1) (k := 0) rfl hx4 rfl hc4 hsc g.few (fun z => by rw [chs_none rfl rfl] at z; exact absurd z (by decide +kernel)) fun σ5 ep5 hx5 hc5 k5 => ?_
  rw [delF_none rfl rfl] at hx5 hc5 ⊢
  dsimp only at hx5 hc5 ⊢
  have hl5 := k5.list hl4 (by simpa using hlc)
  have hd5 := k5.list hd4 (by simpa using hdc)
  have ho5 := k5.list ho4 (by simpa using noc)
  rw [e_str]
  refine str_ne ?_
  rw [if_neg (by decide +kernel), ss_nil_]
  dsimp only
  rw [ss_cons_]
  refine read_at (n := n + 1) (i := 5) (j := 6) (o := 2) rfl (by simp) (by simp) hx5 hsx hc5 hsc g.few (.inl rfl) fun σ6 hx6 hc6 k6 => ?_
  dsimp only
  rw [ss_cons_, s_while]
  have hlen : (sortI (keys es)).length ≤ 60 := by rw [sortI_length, keys_length]; exact g.few
  have hh := sweep_loop (n := n + 1) (d := d) (N := N) (l := l) g oc hsc hso hsx (q := fun f ε' σ' => match f with | .next => wpSs (P1.gx (n + 3)) (.cons (.ret (.tup (.cons (.var 3) (.cons (.var 4) (.cons (.var 5) .nil))))) .nil) (retW q) ε' σ' | f => retW q f ε' σ') ((sortI (keys es)).length + 1) (sortI (keys es)) ⟨"i-o", "sequential", 1, false, true, 0, iniN "i-o" es⟩ [] [] []
  rw [delK_nil] at hh
  refine ⟨(sortI (keys es)).length + 1, hh _ σ6 _ (Nat.lt_succ_self _) ⟨rfl, onward_all fun k hk => by have := g.spos hk; show (1 : Int) ≤ k; omega⟩ rfl rfl hx6 hc6 (k6.list ho5) nol (k6.list hl5) .nil (by simp; omega) fun τ vs o' ep' b1 b2 b3 b4 => ?_⟩
  rw [List.nil_append, delK_swept] at b3
  have hd7 := b4.list (k6.list hd5) (by simp [hdc, hdl])
  dsimp only
  rw [ss_cons_, s_ret, e_tup, es_cons, e_var]
  refine ⟨.ref l, rfl, ?_⟩
  rw [es_cons, e_var]
  refine ⟨.ref d, rfl, ?_⟩
  rw [es_cons, e_var]
  refine ⟨_, rfl, ?_⟩
  rw [es_nil]
  intro u hu
  have k8 : Kp [] τ (τ.set u (.tup [.ref l, .ref d, .str "10"])) := Kp.new hu.1
  have kk : Kp [l, c] σ (τ.set u (.tup [.ref l, .ref d, .str "10"])) := (((kk4.trans k5).trans k6.weak).mono (by simp)).trans ((b4.mono (by simp)).trans k8.weak)
  exact h _ u l d vs ep' (Sto.set_self _ _ _) hu.2 (k8.list b1) hl.2 ((show Its τ vs (goneF es N) from b2).keep k8) (k8.list hd7) hd.2 (k8.dict b3) (kk.drop σl)
end Mine
end
section
open PySem
set_option Elab.async false
set_option maxRecDepth 100000
namespace Mine
variable {n : Nat} {σ σ' : Sto} {ε : Env0}
theorem take_at {f : Addr} {k : Nat} {lim : Int} {q : Post} (e1 : ε[1]? = some (some (.ref f))) (hf : σ f = some (.taker k)) (hk : k < 400) (h0 : 0 < lim) (h1 : lim ≤ 1000) (h : ∀ r : Int, 0 ≤ r → r < lim → q (.int r) (σ.set f (.taker (k + 1)))) : wpE (P1.gx n) (.take (.var 1) (.int lim)) q ε σ := by
  rw [e_take, e_var]
  refine ⟨.ref f, e1, ?_⟩
  rw [e_int]
  exact ⟨k, hf, hk, h0, h1, h⟩
theorem octets_ok : ∀ {bs : List Int}, (∀ b ∈ bs, 0 ≤ b ∧ b < 256) → ∃ b8, octets bs = some b8 ∧ b8.length = bs.length
  | [], _ => ⟨[], rfl, rfl⟩
  | b :: bs, h => by
    obtain ⟨b8, e, l⟩ := octets_ok (bs := bs) fun b hb => h b (.tail _ hb)
    refine ⟨UInt8.ofNat b.toNat :: b8, ?_, by simp [l]⟩
    unfold octets
    rw [if_pos (h b (.head _)), e]
    rfl
theorem comp_takes {f a : Addr} {N L : Nat} {q : List V → Sto → Prop} (hL : 1 < L) (hsa : P1.stat a = none) : ∀ (xs : List V) (ε : Env0) (acc : List V) (k : Nat) (τ : Sto), ε[1]? = some (some (.ref f)) → τ f = some (.taker k) → k + xs.length < 400 → τ a = some (.range N) →
    (∀ τ' (bs : List Int), Kp [f] τ τ' → τ' f = some (.taker (k + xs.length)) → (∀ b ∈ bs, 0 ≤ b ∧ b < 256) → bs.length = xs.length → q (acc ++ bs.map .int) τ') →
    goComp (P1.gx n) (wpE (P1.gx n) (.take (.var 1) (.int 256))) (wpC (P1.gx n) .tru) L a (.range N) q xs acc ε τ
  | [], ε, acc, k, τ, e1, hf, hk, ha, h => ⟨(look_dyn hsa).trans ha, by simpa using h τ [] Kp.refl hf (fun b hb => nomatch hb) rfl⟩
  | x :: xs, ε, acc, k, τ, e1, hf, hk, ha, h => by
    have e1' : (ε.set L (some x))[1]? = some (some (.ref f)) := by rw [List.getElem?_set_ne (by omega)]; exact e1
    refine ⟨(look_dyn hsa).trans ha, ?_⟩
    simp only [List.length_cons] at hk
    rw [c_tru, if_pos rfl]
    refine take_at e1' hf (by omega) (by decide) (by decide) fun r r0 r1 => ?_
    have k1 : Kp [f] τ (τ.set f (.taker (k + 1))) := Kp.put hf (by simp [keeps])
    refine comp_takes hL hsa xs _ _ (k + 1) _ e1' (Sto.set_self _ _ _) (by omega) (k1.range ha) fun τ' bs k2 h2 hb hl => ?_
    have := h τ' (r :: bs) (k1.trans k2) (by rw [h2, List.length_cons]; congr 2; omega) (fun b hb' => by
      rcases List.mem_cons.mp hb' with rfl | z
      · exact ⟨r0, r1⟩
      · exact hb b z) (by simp [hl])
    rw [List.append_assoc]
    exact this
theorem putE_keys (j : Int) (x : V) : ∀ es : List (Int × V), keys (putE j x es) = if j ∈ keys es then keys es else keys es ++ [j]
  | [] => by simp [putE, keys]
  | p :: r => by
    have ih := putE_keys j x r
    unfold putE
    by_cases e : p.1 = j
    · rw [if_pos e, if_pos (by show j ∈ p.1 :: keys r; rw [← e]; exact .head _)]
      show j :: keys r = p.1 :: keys r
      rw [e]
    · rw [if_neg e]
      show p.1 :: keys (putE j x r) = if j ∈ p.1 :: keys r then p.1 :: keys r else p.1 :: keys r ++ [j]
      rw [ih]
      by_cases hj : j ∈ keys r
      · rw [if_pos hj, if_pos (.tail _ hj)]
      · rw [if_neg hj, if_neg (by intro z; rcases List.mem_cons.mp z with z | z; exact e z.symm; exact hj z)]; rfl
theorem putE_oct {j : Int} {b : Array UInt8} : ∀ {es : List (Int × V)}, Oct es → Oct (putE j (.bytes b) es)
  | [], _ => fun p hp => by
    rcases List.mem_cons.mp hp with rfl | z
    · exact ⟨b, rfl⟩
    · cases z
  | p :: r, h => by
    unfold putE
    by_cases e : p.1 = j
    · rw [if_pos e]
      intro p' hp
      rcases List.mem_cons.mp hp with rfl | z
      · exact ⟨b, rfl⟩
      · exact h p' (.tail _ z)
    · rw [if_neg e]
      intro p' hp
      rcases List.mem_cons.mp hp with rfl | z
      · exact h _ (.head _)
      · exact putE_oct (es := r) (fun p hp => h p (.tail _ hp)) p' z
structure Gd (es : List (Int × V)) (m : Nat) : Prop where
  nodup : (keys es).Nodup
  pos : ∀ k ∈ keys es, 0 < k
  few : es.length ≤ m
  oct : Oct es
theorem Gd.good {es : List (Int × V)} {m : Nat} (g : Gd es m) (h : m ≤ 60) : Good es := ⟨g.nodup, g.pos, Nat.le_trans g.few h⟩
theorem Gd.put {es : List (Int × V)} {m : Nat} (g : Gd es m) {j : Int} (hj : 0 < j) {b : Array UInt8} : Gd (putE j (.bytes b) es) (m + 1) := by
  refine ⟨?_, ?_, Nat.le_trans (putE_len _ _ _) (Nat.succ_le_succ g.few), putE_oct g.oct⟩
  · rw [putE_keys]
    by_cases z : j ∈ keys es
    · rw [if_pos z]; exact g.nodup
    · rw [if_neg z]
      rw [List.nodup_append]
      refine ⟨g.nodup, by simp, fun a ha b hb => ?_⟩
      simp only [List.mem_cons, List.not_mem_nil, or_false] at hb
      intro e
      rw [e, hb] at ha
      exact z ha
  · intro k hk
    rw [putE_keys] at hk
    by_cases z : j ∈ keys es
    · rw [if_pos z] at hk; exact g.pos k hk
    · rw [if_neg z] at hk
      rcases List.mem_append.mp hk with z | z
      · exact g.pos k z
      · simp only [List.mem_cons, List.not_mem_nil, or_false] at z
        rw [z]; exact hj
@[reducible] noncomputable def turnW (D L : Nat) (kl sl : Int) : PSs := .cons (.asg (.sub (.var D) (.add (.int 1) (.take (.var 1) (.int kl)))) (.bi .bytes (.comp (.take (.var 1) (.int 256)) L (.bi .range (.take (.var 1) (.int sl))) (.tru)))) .nil
theorem row_turn {D L : Nat} {kl sl : Int} (hL : 1 < L) (hk1 : 0 < kl) (hk2 : kl ≤ 1000) (hs1 : 0 < sl) (hs2 : sl ≤ 5) {f w : Addr} {es : List (Int × V)} {ep k m : Nat} {Q : PostF} (hl : ε.length = L) (e1 : ε[1]? = some (some (.ref f))) (e7 : ε[D]? = some (some (.ref w))) (hf : σ f = some (.taker k)) (hk : k + 10 < 400) (hw : σ w = some (.dict es ep)) (g : Gd es m) (hm : m ≤ 60)
    (h : ∀ τ es' ep' k', Kp [f, w] σ τ → τ f = some (.taker k') → k' ≤ k + 6 → τ w = some (.dict es' ep') → Gd es' (m + 1) → Q .next ε τ) : wpSs (P1.gx n) (turnW D L kl sl) Q ε σ := by
  have nwf : w ≠ f := fun z => by rw [z, hf] at hw; cases hw
  rw [ss_cons_, s_asg, e_bi, e_comp, e_bi]
  refine take_at e1 hf (by omega) hs1 (by omega) fun r r0 r1 => ?_
  have k1 : Kp [f] σ (σ.set f (.taker (k + 1))) := Kp.put hf (by simp [keeps])
  have hf1 : (σ.set f (.taker (k + 1))) f = some (.taker (k + 1)) := Sto.set_self _ _ _
  generalize σ.set f (.taker (k + 1)) = σ1 at *
  refine ⟨r0, by omega, fun l nl => ?_⟩
  have k2 : Kp [] σ1 (σ1.set l (.range r.toNat)) := Kp.new nl.1
  have hl2 : (σ1.set l (.range r.toNat)) l = some (.range r.toNat) := Sto.set_self _ _ _
  have hf2 := k2.taker hf1
  generalize σ1.set l (.range r.toNat) = σ2 at *
  have hlen : ((List.range r.toNat).map fun (i : Nat) => V.int i).length ≤ 4 := by rw [List.length_map, List.length_range]; omega
  refine ⟨l, _, _, rfl, (look_dyn nl.2).trans hl2, rfl, Nat.le_trans hlen (by decide), ?_⟩
  refine comp_takes hL nl.2 _ _ _ (k + 1) σ2 (by rw [List.getElem?_append_left (by omega)]; exact e1) hf2 (by omega) hl2 fun σ3 bs k3 hf3 hb hbl => ?_
  intro l3 nl3
  have k4 : Kp [] σ3 (σ3.set l3 (.list true ([] ++ bs.map .int))) := Kp.new nl3.1
  have hl4 := Sto.set_self σ3 l3 (.list true ([] ++ bs.map .int))
  have hf4 := k4.taker hf3
  generalize σ3.set l3 (.list true ([] ++ bs.map .int)) = σ4 at *
  obtain ⟨b8, ho, h8⟩ := octets_ok hb
  refine ⟨true, _, bs, b8, (look_dyn nl3.2).trans hl4, ?_, ho, by omega, ?_⟩
  · rw [List.nil_append]; exact intsOf_map' bs
  have k14 : Kp [f] σ σ4 := k1.trans (k2.weak.trans (k3.trans k4.weak))
  have hw4 := k14.dict hw (by simpa using nwf)
  dsimp only
  rw [t_sub, e_var]
  refine ⟨.ref w, e7, ?_⟩
  rw [e_add, e_int]
  refine take_at e1 hf4 (by omega) hk1 hk2 fun r' r'0 r'1 => ?_
  have k5 : Kp [f] σ4 (σ4.set f (.taker (k + 1 + ((List.range r.toNat).map fun (i : Nat) => V.int i).length + 1))) := Kp.put hf4 (by simp [keeps])
  have hw5 := k5.dict hw4 (by simpa using nwf)
  have hf5 := Sto.set_self σ4 f (.taker (k + 1 + ((List.range r.toNat).map fun (i : Nat) => V.int i).length + 1))
  generalize σ4.set f (.taker (k + 1 + ((List.range r.toNat).map fun (i : Nat) => V.int i).length + 1)) = σ5 at *
  have hfew := g.few
  refine ⟨w, 1 + r', es, ep, rfl, rfl, hw5, by omega, fun ep' => ?_⟩
  rw [ss_nil_]
  have k6 : Kp [f, w] σ5 (σ5.set w (.dict (putE (1 + r') (.bytes b8.toArray) es) ep')) := Kp.put hw5 (by simp [keeps])
  exact h _ (putE (1 + r') (.bytes b8.toArray) es) ep' _ (((k14.trans k5).mono (by simp)).trans k6) ((Sto.set_ne _ _ (Ne.symm nwf)).trans hf5) (by omega) (Sto.set_self _ _ _) (g.put (by omega))
theorem rows_loop {D T L : Nat} {kl sl : Int} (hL : 1 < L) (hT : T < L) (hTD : T ≠ D) (hT1 : T ≠ 1) (hk1 : 0 < kl) (hk2 : kl ≤ 1000) (hs1 : 0 < sl) (hs2 : sl ≤ 5) {f w a : Addr} {N : Nat} {Q : PostF} (hsa : P1.stat a = none) : ∀ (xs : List V) (ε : Env0) (τ : Sto) (es : List (Int × V)) (ep k m : Nat), ε.length = L → ε[1]? = some (some (.ref f)) → ε[D]? = some (some (.ref w)) → τ f = some (.taker k) → k + 6 * xs.length + 10 < 400 → τ w = some (.dict es ep) → Gd es m → m + xs.length ≤ 60 →
    τ a = some (.range N) →
    (∀ ε' τ' es' ep' k', ε'.length = L → (∀ i, i ≠ T → ε'[i]? = ε[i]?) → Kp [f, w] τ τ' → τ' f = some (.taker k') → k' ≤ k + 6 * xs.length → τ' w = some (.dict es' ep') → Gd es' (m + xs.length) → Q .next ε' τ') →
    goFor (P1.gx n) (wpT (P1.gx n) (.var T)) (wpSs (P1.gx n) (turnW D L kl sl)) a (.range N) Q xs ε τ
  | [], ε, τ, es, ep, k, m, hl, e1, e7, hf, hk, hw, g, hm, ha, h => ⟨(look_dyn hsa).trans ha, h ε τ es ep k hl (fun _ _ => rfl) Kp.refl hf (Nat.le_add_right _ _) hw g⟩
  | x :: xs, ε, τ, es, ep, k, m, hl, e1, e7, hf, hk, hw, g, hm, ha, h => by
    simp only [List.length_cons] at hk hm
    refine ⟨(look_dyn hsa).trans ha, ?_⟩
    rw [t_var]
    refine ⟨by omega, ?_⟩
    have fi : ∀ i, i ≠ T → (ε.set T (some x))[i]? = ε[i]? := fun i hi => by rw [List.getElem?_set_ne (Ne.symm hi)]
    refine row_turn hL hk1 hk2 hs1 hs2 (by rw [List.length_set]; exact hl) ((fi 1 (Ne.symm hT1)).trans e1) ((fi D (Ne.symm hTD)).trans e7) hf (by omega) hw g (by omega) fun τ1 es1 ep1 k1 kk hf1 hk1' hw1 g1 => ?_
    dsimp only
    refine rows_loop hL hT hTD hT1 hk1 hk2 hs1 hs2 hsa xs _ τ1 es1 ep1 k1 (m + 1) (by rw [List.length_set]; exact hl) ((fi 1 (Ne.symm hT1)).trans e1) ((fi D (Ne.symm hTD)).trans e7) hf1 (by omega) hw1 g1 (by omega) (kk.range ha) fun ε' τ' es' ep' k' a1 a2 a4 a5 a6 a7 a8 => ?_
    refine h ε' τ' es' ep' k' a1 (fun i hi => (a2 i hi).trans (fi i hi)) (kk.trans a4) a5 (by simp only [List.length_cons]; omega) a7 ?_
    rw [show m + (x :: xs).length = m + 1 + xs.length by simp only [List.length_cons]; omega]
    exact a8
theorem rows_stmt {D T L : Nat} {kl sl nl : Int} (hL : 1 < L) (hT : T < L) (hTD : T ≠ D) (hT1 : T ≠ 1) (hk1 : 0 < kl) (hk2 : kl ≤ 1000) (hs1 : 0 < sl) (hs2 : sl ≤ 5) (hn1 : 0 < nl) (hn2 : nl ≤ 9) {f w : Addr} {Q : PostF} {ep k : Nat} (hl : ε.length = L) (e1 : ε[1]? = some (some (.ref f))) (eD : ε[D]? = some (some (.ref w))) (hf : σ f = some (.taker k)) (hk : k ≤ 100) (hw : σ w = some (.dict [] ep))
    (h : ∀ ε' τ' es' ep' k', ε'.length = L → (∀ i, i ≠ T → ε'[i]? = ε[i]?) → Kp [f, w] σ τ' → τ' f = some (.taker k') → k' ≤ k + 60 → τ' w = some (.dict es' ep') → Good es' → Oct es' → es'.length ≤ 8 → Q .next ε' τ') :
    wpS (P1.gx n) (.for_ (.var T) (.bi .range (.take (.var 1) (.int nl))) (turnW D L kl sl)) Q ε σ := by
  have nwf : w ≠ f := fun z => by rw [z, hf] at hw; cases hw
  rw [s_for, e_bi]
  refine take_at e1 hf (by omega) hn1 (by omega) fun r r0 r1 => ?_
  have k2 : Kp [f] σ (σ.set f (.taker (k + 1))) := Kp.put hf (by simp [keeps])
  have hf2 := Sto.set_self σ f (.taker (k + 1))
  have hw2 := k2.dict hw (by simpa using nwf)
  generalize σ.set f (.taker (k + 1)) = σ2 at *
  refine ⟨r0, by omega, fun l nl => ?_⟩
  have k3 : Kp [] σ2 (σ2.set l (.range r.toNat)) := Kp.new nl.1
  have hl3 : (σ2.set l (.range r.toNat)) l = some (.range r.toNat) := Sto.set_self _ _ _
  have hf3 := k3.taker hf2
  have hw3 := k3.dict hw2
  generalize σ2.set l (.range r.toNat) = σ3 at *
  have hlen : ((List.range r.toNat).map fun (i : Nat) => V.int i).length ≤ 8 := by rw [List.length_map, List.length_range]; omega
  refine ⟨l, _, _, rfl, (look_dyn nl.2).trans hl3, rfl, Nat.le_trans hlen (by decide), ?_⟩
  refine rows_loop hL hT hTD hT1 hk1 hk2 hs1 hs2 nl.2 _ ε σ3 [] ep (k + 1) 0 hl e1 eD hf3 (by omega) hw3 ⟨by simp [keys], (fun k hk => nomatch hk), Nat.le_refl _, (fun p hp => nomatch hp)⟩ (by omega) hl3 fun ε' τ' es' ep' k' a1 a2 a4 a5 a6 a7 a8 => ?_
  exact h ε' τ' es' ep' k' a1 a2 ((k2.trans k3.weak).mono (by simp) |>.trans a4) a5 (by omega) a7 (a8.good (by omega)) a8.oct (by have := a8.few; omega)
end Mine
end
section
open PySem
set_option Elab.async false
set_option maxRecDepth 100000
namespace Mine
variable {n : Nat} {σ σ' : Sto} {ε : Env0}
noncomputable abbrev Deed := PySem.Str × Int
structure Met where
  th : List Int
  lo : Option Int
  la : Int
noncomputable def stepM (M : Met) (d : Deed) : It × Met :=
  if (d.1 == ("next" : PySem.Str)) = true then
    match M.lo with
    | none => (.tup [.str "46", .int M.la], M)
    | some l => match onward (sortI M.th) (l + 1) with
      | [] => (.tup [.str "10", .int M.la], { M with lo := none })
      | j :: _ => (.tup [.str "00", .int j], { M with lo := some j, la := j })
  else if (d.1 == ("delete" : PySem.Str)) = true then (.at (.str (if d.2 ∈ M.th then "00" else "23")), { M with th := M.th.filter fun j => decide (j ≠ d.2) })
  else if d.2 ∈ M.th then (.at (.str "22"), M) else (.at (.str "00"), { M with th := M.th ++ [d.2], la := d.2 })
noncomputable def metF : Met → List Deed → List It
  | _, [] => []
  | M, d :: r => (stepM M d).1 :: metF (stepM M d).2 r
noncomputable def metE : Met → List Deed → Met
  | M, [] => M
  | M, d :: r => metE (stepM M d).2 r
noncomputable def deedIt (d : Deed) : It := .tup [.str d.1, .int d.2]
structure FS (M : Met) (F : Fil) (es : List (Int × V)) (m : Nat) : Prop where
  mode : F.mode = "i-o"
  acc : F.access = "dynamic"
  num : F.number = M.la
  lo : match M.lo with
    | none => F.valid = false
    | some l => F.valid = true ∧ (if F.behind then F.place + 1 else F.place) = l + 1
  nd : M.th.Nodup
  mem : ∀ k, k ∈ keys es ↔ k ∈ M.th
  gd : Gd es m
theorem FS.srt {M : Met} {F : Fil} {es : List (Int × V)} {m : Nat} (h : FS M F es m) : sortI (keys es) = sortI M.th := sortI_ext h.gd.nodup h.nd h.mem
theorem FS.next {M : Met} {F : Fil} {es : List (Int × V)} {m : Nat} {d : Deed} (h : FS M F es m) (hd : (d.1 == ("next" : PySem.Str)) = true) :
    FS (stepM M d).2 (rnx F (sortI (keys es))).1 es m ∧ (stepM M d).1 = .tup [.str (rnx F (sortI (keys es))).2.1, .int (rnx F (sortI (keys es))).1.number] := by
  have hK : ∀ k ∈ sortI (keys es), 0 < k := fun k hk => h.gd.pos k (mem_sortI.mp hk)
  have hlo := h.lo
  unfold stepM
  rw [if_pos hd]
  cases hl : M.lo with
  | none =>
    rw [hl] at hlo
    rw [rnx_off h.mode hlo]
    dsimp only
    refine ⟨⟨h.mode, h.acc, h.num, by rw [hl]; exact hlo, h.nd, h.mem, h.gd⟩, by rw [h.num]⟩
  | some l =>
    rw [hl] at hlo
    dsimp only
    rw [← h.srt]
    cases ho : onward (sortI (keys es)) (l + 1) with
    | nil =>
      rw [rnx_nil h.mode ⟨hlo.1, by rw [hlo.2]; exact ho⟩]
      dsimp only
      exact ⟨⟨h.mode, h.acc, h.num, rfl, h.nd, h.mem, h.gd⟩, by rw [h.num]⟩
    | cons j r =>
      rw [rnx_cons hK h.mode ⟨hlo.1, by rw [hlo.2]; exact ho⟩]
      dsimp only
      exact ⟨⟨h.mode, h.acc, rfl, ⟨rfl, rfl⟩, h.nd, h.mem, h.gd⟩, rfl⟩
theorem FS.del {M : Met} {F : Fil} {es : List (Int × V)} {m : Nat} {d : Deed} (h : FS M F es m) (hm : m ≤ 60) (h1 : (d.1 == ("next" : PySem.Str)) = false) (h2 : (d.1 == ("delete" : PySem.Str)) = true) :
    FS (stepM M d).2 (delF F es d.2).1 (delF F es d.2).2.1 m ∧ (stepM M d).1 = .at (.str (delF F es d.2).2.2) := by
  unfold stepM
  rw [if_neg (by rw [h1]; decide), if_pos h2, delF_num (h.gd.good hm) (.inr h.acc)]
  dsimp only
  refine ⟨⟨h.mode, h.acc, h.num, h.lo, h.nd.sublist List.filter_sublist, fun k => ?_, ⟨delK_nodup h.gd.nodup, fun k hk => h.gd.pos k (mem_delK.mp hk).1, Nat.le_trans (List.length_filter_le _ _) h.gd.few, h.gd.oct.delK⟩⟩, ?_⟩
  · rw [mem_delK, List.mem_filter, h.mem]; simp
  · unfold delS
    by_cases z : d.2 ∈ keys es
    · rw [if_pos z, if_pos ((h.mem _).mp z)]
    · rw [if_neg z, if_neg fun w => z ((h.mem _).mpr w)]
theorem FS.wr {M : Met} {F : Fil} {es : List (Int × V)} {m : Nat} {d : Deed} {b : Array UInt8} (h : FS M F es m) (hd : 0 < d.2) (h1 : (d.1 == ("next" : PySem.Str)) = false) (h2 : (d.1 == ("delete" : PySem.Str)) = false) :
    FS (stepM M d).2 (wrt F es d.2 b).1 (wrt F es d.2 b).2.1 (m + 1) ∧ (stepM M d).1 = .at (.str (wrt F es d.2 b).2.2) := by
  unfold stepM wrt
  rw [if_neg (by rw [h1]; decide), if_neg (by rw [h2]; decide)]
  by_cases z : d.2 ∈ keys es
  · rw [if_pos (isSome_getE.mpr z), if_pos ((h.mem _).mp z)]
    exact ⟨⟨h.mode, h.acc, h.num, h.lo, h.nd, h.mem, ⟨h.gd.nodup, h.gd.pos, Nat.le_succ_of_le h.gd.few, h.gd.oct⟩⟩, rfl⟩
  · have w : d.2 ∉ M.th := fun w => z ((h.mem _).mpr w)
    rw [if_neg fun y => z (isSome_getE.mp y), if_neg w]
    refine ⟨⟨h.mode, h.acc, rfl, h.lo, ?_, fun k => ?_, h.gd.put hd⟩, rfl⟩
    · rw [List.nodup_append]
      refine ⟨h.nd, by simp, fun a ha b hb => ?_⟩
      simp only [List.mem_cons, List.not_mem_nil, or_false] at hb
      intro e
      rw [e, hb] at ha
      exact w ha
    · rw [putE_keys, if_neg z, List.mem_append, List.mem_append, h.mem]
end Mine
end
section
open PySem
set_option Elab.async false
set_option maxRecDepth 100000
namespace Mine
variable {n : Nat} {σ σ' : Sto} {ε : Env0}
theorem FS.up {M : Met} {F : Fil} {es : List (Int × V)} {m m' : Nat} (h : FS M F es m) (hm : m ≤ m') : FS M F es m' := ⟨h.mode, h.acc, h.num, h.lo, h.nd, h.mem, ⟨h.gd.nodup, h.gd.pos, Nat.le_trans h.gd.few hm, h.gd.oct⟩⟩
@[reducible] noncomputable def metBody : PSs := .cons (.ite (.cmp .eq (.var 4) (.str "next")) (.cons (.expr (.bm (.var 3) .append (.cons (.tup (.cons (.sub (.meth (.var 2) 3 (.nil)) (.int 0)) (.cons (.attr (.var 2) 8) .nil))) .nil))) .nil) (.cons (.ite (.cmp .eq (.var 4) (.str "delete")) (.cons (.expr (.bm (.var 3) .append (.cons (.meth (.var 2) 7 (.cons (.var 5) .nil)) .nil))) .nil) (.cons (.expr (.bm (.var 3) .append (.cons (.meth (.var 2) 4 (.cons (.bytes [97, 110, 101, 119]) (.cons (.var 5) .nil))) .nil))) .nil)) .nil)) .nil
theorem met_loop {c x l a : Addr} {src : AO} (hsc : P1.stat c = none) (hsx : P1.stat x = none) {q : PostF} :
    ∀ (ds : List Deed) (dv : List V) (M : Met) (F : Fil) (es : List (Int × V)) (m : Nat) (vs : List V) (its : List It) (e4 e5 : Option V) (τ : Sto) (ep : Nat), Its τ dv (ds.map deedIt) → m + ds.length ≤ 60 → (∀ d ∈ ds, (d.1 == ("next" : PySem.Str)) = false → 0 < d.2) → FS M F es m → IsF τ x c F → τ c = some (.dict es ep) → τ l = some (.list true vs) → Its τ vs its → vs.length + ds.length ≤ 200 →
      (∀ τ', Kp [c, l] τ τ' → look (P1.gx (n + 2)) τ' a = some src) →
      (∀ τ' vs' F' es' ep' z4 z5, τ' l = some (.list true vs') → Its τ' vs' (its ++ metF M ds) → τ' c = some (.dict es' ep') → FS (metE M ds) F' es' (m + ds.length) → Kp [c, l] τ τ' → q .next [some (.ref c), some (.ref a), some (.ref x), some (.ref l), z4, z5] τ') →
      goFor (P1.gx (n + 2)) (wpT (P1.gx (n + 2)) (.tup (.cons (.var 4) (.cons (.var 5) .nil)))) (wpSs (P1.gx (n + 2)) metBody) a src q dv [some (.ref c), some (.ref a), some (.ref x), some (.ref l), e4, e5] τ := by
  intro ds
  induction ds with
  | nil =>
    intro dv M F es m vs its e4 e5 τ ep hd hm hp fs hx hc hl hits hlen hsrc hq
    cases hd
    exact ⟨hsrc τ Kp.refl, hq τ vs F es ep e4 e5 hl (by simpa [metF] using hits) hc fs Kp.refl⟩
  | cons d r ih =>
    intro dv M F es m vs its e4 e5 τ ep hd hm hp fs hx hc hl hits hlen hsrc hq
    cases hd with
    | @cons v _ dv _ hv hd =>
      obtain ⟨t, rfl, ht⟩ := hv
      have nlc : l ≠ c := fun e => by rw [e, hc] at hl; cases hl
      simp only [List.length_cons] at hm hlen
      refine ⟨hsrc τ Kp.refl, ?_⟩
      rw [t_tup]
      refine ⟨t, _, rfl, ht, rfl, ?_⟩
      refine ⟨_, _, rfl, by simp, _, _, rfl, by simp, rfl, ?_⟩
      have fin : ∀ (y : V) (τ1 : Sto) (F1 : Fil) (es1 : List (Int × V)) (ep1 : Nat), Kp [c] τ τ1 → IsF τ1 x c F1 → τ1 c = some (.dict es1 ep1) → FS (stepM M d).2 F1 es1 (m + 1) → ItAt τ1 y (stepM M d).1 →
          ∃ xs, τ1 l = some (.list true xs) ∧ xs.length ≤ 10000 ∧ ((∀ a, V.none ≠ .ref a) ∧ goFor (P1.gx (n + 2)) (wpT (P1.gx (n + 2)) (.tup (.cons (.var 4) (.cons (.var 5) .nil)))) (wpSs (P1.gx (n + 2)) metBody) a src q dv [some (.ref c), some (.ref a), some (.ref x), some (.ref l), some (.str d.1), some (.int d.2)] (τ1.set l (.list true (xs ++ [y])))) := by
        intro y τ1 F1 es1 ep1 k1 hx1 hc1 fs1 hy
        have hl1 := k1.list hl (by simpa using nlc)
        refine ⟨vs, hl1, by omega, (fun _ => nofun), ?_⟩
        have nxl : x ≠ l := IsF.ne_list hx1 hl1
        have s2 : Keep [l] τ1 (τ1.set l (.list true (vs ++ [y]))) := keep_set hl1
        have k2 : Kp [c, l] τ1 (τ1.set l (.list true (vs ++ [y]))) := Kp.put hl1 (by simp [keeps])
        have kk : Kp [c, l] τ (τ1.set l (.list true (vs ++ [y]))) := (k1.mono (by simp)).trans k2
        refine ih dv (stepM M d).2 F1 es1 (m + 1) (vs ++ [y]) (its ++ [(stepM M d).1]) _ _ _ ep1 (hd.keep kk) (by omega) (fun e he => hp e (.tail _ he)) fs1 (s2 x _ (by simpa using nxl) hx1) (s2 c _ (by simpa using nlc.symm) hc1) (Sto.set_self _ _ _) (((hits.keep k1).keep k2).snoc (hy.keep k2)) (by simp; omega) (fun τ' k => hsrc τ' (kk.trans k)) fun τ' vs' F' es' ep' z4 z5 b1 b2 b3 b4 b5 => ?_
        refine hq τ' vs' F' es' ep' z4 z5 b1 ?_ b3 ?_ (kk.trans b5)
        · rw [List.append_assoc] at b2; exact b2
        · rw [List.length_cons, show m + (r.length + 1) = m + 1 + r.length by omega]; exact b4
      show wpSs (P1.gx (n + 2)) metBody _ [some (.ref c), some (.ref a), some (.ref x), some (.ref l), some (.str d.1), some (.int d.2)] τ
      rw [ss_cons_, s_ite, c_cmp, e_var]
      refine ⟨.str d.1, rfl, ?_⟩
      rw [e_str]
      refine str_eq ?_
      cases h1 : (d.1 == ("next" : PySem.Str)) with
      | true =>
        rw [if_pos rfl, ss_cons_]
        refine app_at (i := 3) (vs := vs) rfl hl ?_
        rw [e_tup, es_cons, e_sub, e_meth, e_var]
        refine ⟨.ref x, rfl, ⟨x, _, rfl, hx⟩, ?_⟩
        rw [es_nil]
        refine sp_next (n := n) hx hsx hc hsc (by have := fs.gd.few; omega) (.inr fs.acc) fun τ1 u A => ?_
        rw [e_int]
        obtain ⟨f1, f2⟩ := fs.next h1
        have hc1 : τ1 c = some (.dict es ep) := A.2.2.2 c _ (by simpa using (IsF.ne_dict hx hc).symm) hc
        show subW (P1.gx (n + 2)) (.ref u) (.int 0) _ τ1
        unfold subW
        dsimp only
        rw [look_dyn A.2.2.1, A.2.1]
        refine ⟨by omega, by decide, _, rfl, ?_⟩
        rw [es_cons]
        refine get_v rfl A.1 rfl ?_
        rw [es_nil]
        intro w hw
        have k1 : Kp [c] τ τ1 := A.2.2.2.kpx hx A.1
        have k2 : Kp [] τ1 (τ1.set w (.tup [.str (rnx F (sortI (keys es))).2.1, .int (rnx F (sortI (keys es))).1.number])) := Kp.new hw.1
        exact fin (.ref w) _ _ es ep (k1.trans k2.weak) (Keep.new (X := []) hw.1 x _ (fun z => nomatch z) A.1) (k2.dict hc1) (f1.up (by omega)) (by rw [f2]; exact ItAt.of (Sto.set_self _ _ _) hw.2)
      | false =>
        rw [if_neg (by decide), ss_cons_, s_ite, c_cmp, e_var]
        refine ⟨.str d.1, rfl, ?_⟩
        rw [e_str]
        refine str_eq ?_
        cases h2 : (d.1 == ("delete" : PySem.Str)) with
        | true =>
          rw [if_pos rfl, ss_cons_]
          refine app_at (i := 3) (vs := vs) rfl hl ?_
          rw [e_meth, e_var]
          refine ⟨.ref x, rfl, ⟨x, _, rfl, hx⟩, ?_⟩
          rw [es_cons, e_var]
          refine ⟨.int d.2, rfl, ?_⟩
          rw [es_nil]
          obtain ⟨f1, f2⟩ := fs.del (by omega) h1 h2
          refine sp_delete (k := d.2) rfl hx fs.mode hc hsc (by have := fs.gd.few; omega) (del_get fs.gd.oct (.inr fs.acc)) fun τ1 ep1 hx1 hc1 k1 => ?_
          obtain ⟨xs, b1, b2, b3, b4⟩ := fin _ τ1 _ _ ep1 k1 hx1 hc1 (f1.up (by omega)) (by rw [f2]; rfl)
          exact ⟨xs, b1, b2, b3, b4⟩
        | false =>
          rw [if_neg (by decide), ss_cons_]
          refine app_at (i := 3) (vs := vs) rfl hl ?_
          rw [e_meth, e_var]
          refine ⟨.ref x, rfl, ⟨x, _, rfl, hx⟩, ?_⟩
          rw [es_cons, e_bytes, es_cons, e_var]
          refine ⟨.int d.2, rfl, ?_⟩
          rw [es_nil]
          obtain ⟨f1, f2⟩ := fs.wr (b := [97, 110, 101, 119].toArray) (hp d (.head _) h1) h1 h2
          refine sp_write (n := n + 1) (k := d.2) rfl hx fs.mode fs.acc (hp d (.head _) h1) hc hsc (by have := fs.gd.few; omega) fun τ1 ep1 hx1 hc1 k1 => ?_
          obtain ⟨xs, b1, b2, b3, b4⟩ := fin _ τ1 _ _ ep1 k1 hx1 hc1 f1 (by rw [f2]; rfl)
          exact ⟨xs, b1, b2, b3, b4⟩
end Mine
end
section
open PySem
set_option Elab.async false
set_option maxRecDepth 100000
namespace Mine
variable {n : Nat} {σ σ' : Sto} {ε : Env0}
noncomputable def met0 (es : List (Int × V)) : Met := ⟨sortI (keys es), some 0, 0⟩
theorem nodup_sortI {ks : List Int} (h : ks.Nodup) : (sortI ks).Nodup := (sortI_sorted h).imp fun h => by omega
theorem sp_met {c a : Addr} {src : AO} {dv : List V} {es : List (Int × V)} {ep m : Nat} {ds : List Deed} {q : Post} (gd : Gd es m) (hm : m + ds.length ≤ 60) (hp : ∀ d ∈ ds, (d.1 == ("next" : PySem.Str)) = false → 0 < d.2) (hc : σ c = some (.dict es ep)) (hsc : P1.stat c = none)
    (hi : itemsOf src = some dv) (hd : Its σ dv (ds.map deedIt)) (hsrc : ∀ τ, Kp [c] σ τ → look (P1.gx (n + 3)) τ a = some src)
    (h : ∀ σ' l vs F es' ep', σ' l = some (.list true vs) → P1.stat l = none → Its σ' vs (metF (met0 es) ds) → σ' c = some (.dict es' ep') → FS (metE (met0 es) ds) F es' (m + ds.length) → Kp [c] σ σ' → q (.ref l) σ') : fnW P1 (n + 4) 218 [.ref c, .ref a] q σ := by
  have hz : es.length ≤ 60 := by have := gd.few; omega
  refine ⟨_, rfl, ?_⟩
  show wpSs (P1.gx (n + 3)) b_law_met _ _ _
  rw [ss_cons_, s_asg, e_tup, es_cons, e_fnW, es_cons, e_var]
  refine ⟨.ref c, rfl, ?_⟩
  rw [es_cons, e_str, es_cons, e_str, es_nil]
  refine sp_file hc hsc hz (fun z => absurd z (by decide +kernel)) fun σ1 x ep1 hx1 hsx hc1 s1 σx => ?_
  rw [if_neg (by decide +kernel)] at hc1
  have k1 : Kp [c] σ σ1 := s1.kpd hc hc1
  rw [es_cons, e_list, es_nil]
  intro l hl
  have hlc : l ≠ c := fun e => by have := hl.1; rw [e, hc1] at this; cases this
  have σl : σ l = none := k1.2 l hl.1
  have k2 : Kp [] σ1 (σ1.set l (.list true [])) := Kp.new hl.1
  have hl2 : (σ1.set l (.list true [])) l = some (.list true []) := Sto.set_self _ _ _
  have hx2 := Keep.new (X := []) hl.1 (o := .list true []) x _ (fun z => nomatch z) hx1
  have hc2 := k2.dict hc1
  generalize σ1.set l (.list true []) = σ2 at *
  rw [es_nil]
  intro t ht
  have k3 : Kp [] σ2 (σ2.set t (.tup [.ref x, .ref l])) := Kp.new ht.1
  have ht3 : (σ2.set t (.tup [.ref x, .ref l])) t = some (.tup [.ref x, .ref l]) := Sto.set_self _ _ _
  have hx3 := Keep.new (X := []) ht.1 (o := .tup [.ref x, .ref l]) x _ (fun z => nomatch z) hx2
  have hc3 := k3.dict hc2
  have hl3 := k3.list hl2
  generalize σ2.set t (.tup [.ref x, .ref l]) = σ3 at *
  rw [t_rev]
  refine ⟨t, _, rfl, (look_dyn ht.2).trans ht3, rfl, ?_⟩
  show wpSs (P1.gx (n + 3)) _ (retW q) [some (.ref c), some (.ref a), some (.ref x), some (.ref l), none, none] σ3
  have kk3 : Kp [c] σ σ3 := k1.trans (k2.trans k3).weak
  rw [ss_cons_, s_for, e_var]
  refine ⟨.ref a, rfl, a, src, dv, rfl, hsrc _ kk3, hi, by rw [hd.length, List.length_map]; omega, ?_⟩
  refine met_loop (n := n + 1) hsc hsx ds dv (met0 es) ⟨"i-o", "dynamic", 1, false, true, 0, iniN "i-o" es⟩ es m [] [] none none σ3 ep1 (hd.keep kk3) hm hp ⟨rfl, rfl, iniN_io (es := es), ⟨rfl, rfl⟩, nodup_sortI gd.nodup, fun k => mem_sortI.symm, gd⟩ hx3 hc3 hl3 .nil (by simp; omega)
    (fun τ' k => hsrc τ' (Kp.drop σl ((kk3.mono (by simp)).trans (k.mono (by simp))))) fun τ vs F es' ep' z4 z5 b1 b2 b3 b4 b5 => ?_
  dsimp only
  rw [ss_cons_, s_ret, e_var]
  refine ⟨.ref l, rfl, ?_⟩
  have kk : Kp [l, c] σ τ := ((kk3.mono (by simp)).trans b5).mono (by simp)
  exact h τ l vs F es' ep' b1 hl.2 b2 b3 b4 (kk.drop σl)
end Mine
end
section
open PySem
set_option Elab.async false
set_option maxRecDepth 100000
namespace Mine
variable {n : Nat} {σ σ' τ : Sto} {ε : Env0}
theorem comp_sel {t : Nat} {a : Addr} {src : AO} {p : Int → Bool} {c : PC} {q : List V → Sto → Prop} (ht : t < ε.length) (hsrc : look (P1.gx n) τ a = some src) (hc : ∀ (k : Int) (q : Bool → Sto → Prop), q (p k) τ → wpC (P1.gx n) c q (ε.set t (some (.int k))) τ) :
    ∀ (ks : List Int) (acc : List V) (ε' : Env0), (∃ v, ε' = ε.set t v) → q (acc ++ (ks.filter p).map .int) τ → goComp (P1.gx n) (wpE (P1.gx n) (.var t)) (wpC (P1.gx n) c) t a src q (ks.map .int) acc ε' τ
  | [], acc, _, _, h => ⟨hsrc, by simpa using h⟩
  | k :: ks, acc, _, ⟨v, rfl⟩, h => by
    refine ⟨hsrc, ?_⟩
    rw [List.set_set]
    refine hc k _ ?_
    cases hp : p k with
    | true =>
      rw [List.filter_cons_of_pos hp] at h
      rw [if_pos rfl, e_var]
      refine ⟨.int k, by rw [List.getElem?_set_self ht], comp_sel ht hsrc hc ks _ _ ⟨_, rfl⟩ ?_⟩
      rw [List.append_assoc]
      exact h
    | false =>
      rw [List.filter_cons_of_neg (by rw [hp]; decide)] at h
      rw [if_neg (by decide)]
      exact comp_sel ht hsrc hc ks _ _ ⟨_, rfl⟩ h
theorem ne_nil {i : Nat} {s : Addr} {m : Bool} {xs : List V} {q : Bool → Sto → Prop} (hi : ε[i]? = some (some (.ref s))) (hs : σ s = some (.list m xs)) (ss : P1.stat s = none) (h : ∀ σ', Kp [] σ σ' → q (!xs.isEmpty) σ') : wpC (P1.gx n) (.cmp .ne (.var i) (.list .nil)) q ε σ := by
  rw [c_cmp, e_var]
  refine ⟨.ref s, hi, ?_⟩
  rw [e_list, es_nil]
  intro l hl
  have k1 : Kp [] σ (σ.set l (.list true [])) := Kp.new hl.1
  have hs1 := k1.list hs
  have hl1 := Sto.set_self σ l (.list true [])
  refine ⟨xs.isEmpty, ?_, h _ k1⟩
  generalize σ.set l (.list true []) = σ1 at *
  unfold eqT
  dsimp only
  rw [look_dyn ss, look_dyn hl.2, hs1, hl1]
  dsimp only
  unfold eqV
  rw [look_dyn ss, look_dyn hl.2, hs1, hl1]
  dsimp only
  cases xs with
  | nil => rw [if_pos rfl]; rfl
  | cons x r => rw [if_neg (by simp)]; rfl
noncomputable def loV : Option Int → V
  | none => .none
  | some l => .int l
noncomputable def abv (M : Met) : List Int := match M.lo with
  | none => []
  | some l => onward (sortI M.th) (l + 1)
noncomputable def selP (lo : Option Int) (k : Int) : Bool := match lo with
  | none => false
  | some l => decide (l < k)
theorem abv_sel {M : Met} : abv M = (sortI M.th).filter (selP M.lo) := by
  unfold abv
  cases M.lo with
  | none => show [] = _; rw [List.filter_eq_nil_iff.mpr]; intro a _; simp [selP]
  | some l =>
    unfold onward
    refine List.filter_congr fun k _ => ?_
    show decide (l + 1 ≤ k) = decide (l < k)
    by_cases h : l < k
    · rw [decide_eq_true h, decide_eq_true (by omega)]
    · rw [decide_eq_false h, decide_eq_false (by omega)]
noncomputable def telS : Bool → Bool → PySem.Str
  | false, _ => "00"
  | true, true => "46"
  | true, false => "10"
theorem step_next {M : Met} {d : Deed} (hd : (d.1 == ("next" : PySem.Str)) = true) :
    stepM M d = (.tup [.str (telS (abv M).isEmpty M.lo.isNone), .int ((abv M).headD M.la)], ⟨M.th, (abv M).head?, (abv M).headD M.la⟩) := by
  unfold stepM abv
  rw [if_pos hd]
  cases hl : M.lo with
  | none => cases M; simp at hl; subst hl; rfl
  | some l =>
    dsimp only
    cases onward (sortI M.th) (l + 1) <;> rfl
end Mine
end
section
open PySem
set_option Elab.async false
set_option maxRecDepth 100000
namespace Mine
variable {n : Nat} {σ σ' τ : Sto} {ε : Env0}
@[reducible] noncomputable def nextBody : PSs := .cons (.asg (.var 8) (.comp (.var 10) 10 (.bi .sorted (.var 2)) (.and (.cmp .isNot (.var 3) (.none)) (.cmp .gt (.var 10) (.var 3))))) (.cons (.asg (.var 9) (.ite (.cmp .ne (.var 8) (.list (.nil))) (.str "00") (.ite (.cmp .is (.var 3) (.none)) (.str "46") (.str "10")))) (.cons (.asg (.var 3) (.ite (.cmp .ne (.var 8) (.list (.nil))) (.sub (.var 8) (.int 0)) (.none))) (.cons (.asg (.var 4) (.ite (.cmp .isNot (.var 3) (.none)) (.var 3) (.var 4))) (.cons (.expr (.bm (.var 5) .append (.cons (.tup (.cons (.var 9) (.cons (.var 4) .nil))) .nil))) .nil))))
theorem op_is {Γ : Gx} {x : V} {q : Bool → Sto → Prop} (h : q (isNoneV x) σ) : opW Γ .is x .none q σ := by cases x <;> exact h
theorem op_isNot {Γ : Gx} {x : V} {q : Bool → Sto → Prop} (h : q (!isNoneV x) σ) : opW Γ .isNot x .none q σ := by cases x <;> exact h
theorem isNone_loV {lo : Option Int} : isNoneV (loV lo) = lo.isNone := by cases lo <;> rfl
theorem next_turn {r a tl f : Addr} {M : Met} {d : Deed} {vs : List V} {e8 e9 : Option V} {q : PostF} (hd : (d.1 == ("next" : PySem.Str)) = true) (htl : τ tl = some (.list true (M.th.map .int))) (stl : P1.stat tl = none) (hlen : M.th.length ≤ 60) (hf : τ f = some (.list true vs)) (hv : vs.length ≤ 1000)
    (h : ∀ τ' y e8' e9', Kp [f] τ τ' → τ' f = some (.list true (vs ++ [y])) → ItAt τ' y (stepM M d).1 → q .next [some (.ref r), some (.ref a), some (.ref tl), some (loV (stepM M d).2.lo), some (.int (stepM M d).2.la), some (.ref f), some (.str d.1), some (.int d.2), e8', e9'] τ') :
    wpSs (P1.gx n) nextBody q [some (.ref r), some (.ref a), some (.ref tl), some (loV M.lo), some (.int M.la), some (.ref f), some (.str d.1), some (.int d.2), e8, e9] τ := by
  rw [step_next hd] at h
  dsimp only at h
  rw [ss_cons_, s_asg, e_comp, e_bi, e_var]
  refine ⟨.ref tl, rfl, _, _, M.th, (look_dyn stl).trans htl, rfl, (fun _ => nofun), (fun _ => nofun), intsOf_map' _, hlen, fun s hs => ?_⟩
  have k1 : Kp [] τ (τ.set s (.list true ((sortI M.th).map .int))) := Kp.new hs.1
  have hs1 : (τ.set s (.list true ((sortI M.th).map .int))) s = some (.list true ((sortI M.th).map .int)) := Sto.set_self _ _ _
  have hf1 := k1.list hf
  generalize τ.set s (.list true ((sortI M.th).map .int)) = τ1 at *
  refine ⟨s, _, _, rfl, (look_dyn hs.2).trans hs1, rfl, by rw [List.length_map, sortI_length]; omega, ?_⟩
  refine comp_sel (p := selP M.lo) (ε := [some (.ref r), some (.ref a), some (.ref tl), some (loV M.lo), some (.int M.la), some (.ref f), some (.str d.1), some (.int d.2), e8, e9] ++ [none]) (by simp) ((look_dyn hs.2).trans hs1) (fun k q' hq => ?_) (sortI M.th) [] _ ⟨none, rfl⟩ ?_
  · rw [c_and, c_cmp, e_var]
    refine ⟨loV M.lo, rfl, ?_⟩
    rw [e_none]
    refine op_isNot ?_
    rw [isNone_loV]
    cases hl : M.lo with
    | none => rw [hl] at hq; exact hq
    | some l =>
      rw [hl] at hq
      rw [if_pos (by rfl), c_cmp, e_var]
      refine ⟨.int k, rfl, ?_⟩
      rw [e_var]
      exact ⟨.int l, by first | rfl | (show some (some (loV M.lo)) = _; rw [hl]; rfl), hq⟩
  rw [← abv_sel, List.nil_append]
  intro b hb
  have k2 : Kp [] τ1 (τ1.set b (.list true ((abv M).map .int))) := Kp.new hb.1
  have hb2 : (τ1.set b (.list true ((abv M).map .int))) b = some (.list true ((abv M).map .int)) := Sto.set_self _ _ _
  have hf2 := k2.list hf1
  have kk2 := k1.trans k2
  generalize τ1.set b (.list true ((abv M).map .int)) = τ2 at *
  rw [t_var]
  refine ⟨by simp, ?_⟩
  show wpSs (P1.gx n) _ q [some (.ref r), some (.ref a), some (.ref tl), some (loV M.lo), some (.int M.la), some (.ref f), some (.str d.1), some (.int d.2), some (.ref b), e9] τ2
  rw [ss_cons_, s_asg, e_ite]
  refine ne_nil rfl hb2 hb.2 fun τ3 k3 => ?_
  have hb3 := k3.list hb2
  have hf3 := k3.list hf2
  have kk3 := kk2.trans k3
  -- the status
  have tail : ∀ τ4, Kp [] τ3 τ4 → wpT (P1.gx n) (.var 9) (.str (telS (abv M).isEmpty M.lo.isNone)) (fun ε' σ' => wpSs (P1.gx n) (.cons (.asg (.var 3) (.ite (.cmp .ne (.var 8) (.list (.nil))) (.sub (.var 8) (.int 0)) (.none))) (.cons (.asg (.var 4) (.ite (.cmp .isNot (.var 3) (.none)) (.var 3) (.var 4))) (.cons (.expr (.bm (.var 5) .append (.cons (.tup (.cons (.var 9) (.cons (.var 4) .nil))) .nil))) .nil))) q ε' σ') [some (.ref r), some (.ref a), some (.ref tl), some (loV M.lo), some (.int M.la), some (.ref f), some (.str d.1), some (.int d.2), some (.ref b), e9] τ4 := by
    intro τ4 k4
    have hb4 := k4.list hb3
    have hf4 := k4.list hf3
    have kk4 := kk3.trans k4
    rw [t_var]
    refine ⟨by simp, ?_⟩
    show wpSs (P1.gx n) _ q [some (.ref r), some (.ref a), some (.ref tl), some (loV M.lo), some (.int M.la), some (.ref f), some (.str d.1), some (.int d.2), some (.ref b), some (.str (telS (abv M).isEmpty M.lo.isNone))] τ4
    have last : ∀ τ5, Kp [] τ4 τ5 → wpSs (P1.gx n) (.cons (.asg (.var 4) (.ite (.cmp .isNot (.var 3) (.none)) (.var 3) (.var 4))) (.cons (.expr (.bm (.var 5) .append (.cons (.tup (.cons (.var 9) (.cons (.var 4) .nil))) .nil))) .nil)) q [some (.ref r), some (.ref a), some (.ref tl), some (loV (abv M).head?), some (.int M.la), some (.ref f), some (.str d.1), some (.int d.2), some (.ref b), some (.str (telS (abv M).isEmpty M.lo.isNone))] τ5 := by
      intro τ5 k5
      have hf5 := k5.list hf4
      have kk5 := kk4.trans k5
      have fin : wpSs (P1.gx n) (.cons (.expr (.bm (.var 5) .append (.cons (.tup (.cons (.var 9) (.cons (.var 4) .nil))) .nil))) .nil) q [some (.ref r), some (.ref a), some (.ref tl), some (loV (abv M).head?), some (.int ((abv M).headD M.la)), some (.ref f), some (.str d.1), some (.int d.2), some (.ref b), some (.str (telS (abv M).isEmpty M.lo.isNone))] τ5 := by
        rw [ss_cons_]
        refine app_at (i := 5) (vs := vs) rfl hf5 ?_
        rw [e_tup, es_cons, e_var]
        refine ⟨_, rfl, ?_⟩
        rw [es_cons, e_var]
        refine ⟨_, rfl, ?_⟩
        rw [es_nil]
        intro u hu
        have k6 : Kp [] τ5 (τ5.set u (.tup [.str (telS (abv M).isEmpty M.lo.isNone), .int ((abv M).headD M.la)])) := Kp.new hu.1
        have hu6 : (τ5.set u (.tup [.str (telS (abv M).isEmpty M.lo.isNone), .int ((abv M).headD M.la)])) u = _ := Sto.set_self _ _ _
        have hf6 := k6.list hf5
        show ∃ xs, (τ5.set u (.tup [.str (telS (abv M).isEmpty M.lo.isNone), .int ((abv M).headD M.la)])) f = some (.list true xs) ∧ _
        generalize τ5.set u (.tup [.str (telS (abv M).isEmpty M.lo.isNone), .int ((abv M).headD M.la)]) = τ6 at *
        refine ⟨vs, hf6, by omega, (fun _ => nofun), ?_⟩
        have k7 : Kp [f] τ6 (τ6.set f (.list true (vs ++ [.ref u]))) := Kp.put hf6 (by simp [keeps])
        rw [ss_nil_]
        exact h _ (.ref u) _ _ ((kk5.trans k6).weak.trans k7) (Sto.set_self _ _ _) ((ItAt.of hu6 hu.2).keep k7)
      rw [ss_cons_, s_asg, e_ite, c_cmp, e_var]
      refine ⟨_, rfl, ?_⟩
      rw [e_none]
      refine op_isNot ?_
      rw [isNone_loV]
      cases hA : abv M with
      | nil =>
        rw [hA] at fin
        rw [if_neg (by simp), e_var]
        refine ⟨_, rfl, ?_⟩
        rw [t_var]
        exact ⟨by simp, fin⟩
      | cons j r' =>
        rw [hA] at fin
        rw [if_pos (by simp), e_var]
        refine ⟨_, rfl, ?_⟩
        rw [t_var]
        exact ⟨by simp, fin⟩
    rw [ss_cons_, s_asg, e_ite]
    refine ne_nil rfl hb4 hb.2 fun τ5 k5 => ?_
    have := last τ5 k5
    cases hA : abv M with
    | nil =>
      rw [hA] at this
      rw [if_neg (by simp), e_none, t_var]
      exact ⟨by simp, this⟩
    | cons j r' =>
      rw [hA] at this
      have hb5 := k5.list hb4
      rw [hA] at hb5
      rw [if_pos (by simp), e_sub, e_var]
      refine ⟨.ref b, rfl, ?_⟩
      rw [e_int]
      show subW (P1.gx n) (.ref b) (.int 0) _ τ5
      unfold subW
      dsimp only
      rw [look_dyn hb.2, hb5]
      refine ⟨by omega, by decide, .int j, rfl, ?_⟩
      rw [t_var]
      exact ⟨by simp, this⟩
  cases hA : abv M with
  | nil =>
    rw [hA] at tail
    rw [if_neg (by simp), e_ite, c_cmp, e_var]
    refine ⟨_, rfl, ?_⟩
    rw [e_none]
    refine op_is ?_
    rw [isNone_loV]
    cases hl : M.lo.isNone with
    | true =>
      rw [hl] at tail
      rw [if_pos rfl, e_str]
      exact tail τ3 Kp.refl
    | false =>
      rw [hl] at tail
      rw [if_neg (by decide), e_str]
      exact tail τ3 Kp.refl
  | cons j r' =>
    rw [hA] at tail
    rw [if_pos (by simp), e_str]
    exact tail τ3 Kp.refl
end Mine
end
section
open PySem
set_option Elab.async false
set_option maxRecDepth 100000
namespace Mine
variable {n : Nat} {σ σ' τ : Sto} {ε : Env0}
@[reducible] noncomputable def delBody : PSs := .cons (.expr (.bm (.var 5) .append (.cons (.ite (.cmp .isIn (.var 7) (.var 2)) (.str "00") (.str "23")) .nil))) (.cons (.asg (.var 2) (.comp (.var 10) 10 (.var 2) (.cmp .ne (.var 10) (.var 7)))) .nil)
theorem del_turn {r a tl f : Addr} {th : List Int} {lo : V} {la k : Int} {w : PySem.Str} {vs : List V} {e8 e9 : Option V} {q : PostF} (htl : τ tl = some (.list true (th.map .int))) (stl : P1.stat tl = none) (ntf : tl ≠ f) (hlen : th.length ≤ 100) (hf : τ f = some (.list true vs)) (hv : vs.length ≤ 1000)
    (h : ∀ τ' tl', Kp [f] τ τ' → τ' f = some (.list true (vs ++ [.str (if k ∈ th then "00" else "23")])) → τ' tl' = some (.list true ((th.filter fun j => decide (j ≠ k)).map .int)) → P1.stat tl' = none → tl' ≠ f → q .next [some (.ref r), some (.ref a), some (.ref tl'), some lo, some (.int la), some (.ref f), some (.str w), some (.int k), e8, e9] τ') :
    wpSs (P1.gx n) delBody q [some (.ref r), some (.ref a), some (.ref tl), some lo, some (.int la), some (.ref f), some (.str w), some (.int k), e8, e9] τ := by
  rw [ss_cons_]
  refine app_at (i := 5) (vs := vs) rfl hf ?_
  rw [e_ite, c_cmp, e_var]
  refine ⟨.int k, rfl, ?_⟩
  rw [e_var]
  refine ⟨.ref tl, rfl, in_ints htl stl ?_⟩
  have key : ∃ xs, τ f = some (.list true xs) ∧ xs.length ≤ 10000 ∧ ((∀ a, V.none ≠ .ref a) ∧ wpSs (P1.gx n) (.cons (.asg (.var 2) (.comp (.var 10) 10 (.var 2) (.cmp .ne (.var 10) (.var 7)))) .nil) q [some (.ref r), some (.ref a), some (.ref tl), some lo, some (.int la), some (.ref f), some (.str w), some (.int k), e8, e9] (τ.set f (.list true (xs ++ [.str (if k ∈ th then "00" else "23")])))) := by
    refine ⟨vs, hf, by omega, (fun _ => nofun), ?_⟩
    have k1 : Kp [f] τ (τ.set f (.list true (vs ++ [.str (if k ∈ th then "00" else "23")]))) := Kp.put hf (by simp [keeps])
    have hf1 : (τ.set f (.list true (vs ++ [.str (if k ∈ th then "00" else "23")]))) f = _ := Sto.set_self _ _ _
    have ht1 := k1.list htl (by simpa using ntf)
    generalize τ.set f (.list true (vs ++ [.str (if k ∈ th then "00" else "23")])) = τ1 at *
    rw [ss_cons_, s_asg, e_comp, e_var]
    refine ⟨.ref tl, rfl, tl, _, _, rfl, (look_dyn stl).trans ht1, rfl, by rw [List.length_map]; omega, ?_⟩
    refine comp_sel (p := fun j => decide (j ≠ k)) (ε := [some (.ref r), some (.ref a), some (.ref tl), some lo, some (.int la), some (.ref f), some (.str w), some (.int k), e8, e9] ++ [none]) (by simp) ((look_dyn stl).trans ht1) (fun j q' hq => ?_) th [] _ ⟨none, rfl⟩ ?_
    · rw [c_cmp, e_var]
      refine ⟨.int j, rfl, ?_⟩
      rw [e_var]
      refine ⟨.int k, rfl, j == k, rfl, ?_⟩
      have : (!(j == k)) = decide (j ≠ k) := by
        by_cases z : j = k <;> simp [z]
      rw [this]; exact hq
    rw [List.nil_append]
    intro b hb
    have k2 : Kp [] τ1 (τ1.set b (.list true ((th.filter fun j => decide (j ≠ k)).map .int))) := Kp.new hb.1
    rw [t_var]
    refine ⟨by simp, ?_⟩
    exact h _ b (k1.trans k2.weak) (k2.list hf1) (Sto.set_self _ _ _) hb.2 fun z => by have := hb.1; rw [z, hf1] at this; cases this
  by_cases hk : k ∈ th
  · rw [if_pos hk] at key
    rw [if_pos (by simpa using hk), e_str]
    exact key
  · rw [if_neg hk] at key
    rw [if_neg (by simpa using hk), e_str]
    exact key
end Mine
end
section
open PySem
set_option Elab.async false
set_option maxRecDepth 100000
namespace Mine
variable {n : Nat} {σ σ' τ : Sto} {ε : Env0}
@[reducible] noncomputable def anewBody : PSs := .cons (.expr (.bm (.var 5) .append (.cons (.ite (.cmp .isIn (.var 7) (.var 2)) (.str "22") (.str "00")) .nil))) (.cons (.asg (.var 4) (.ite (.cmp .isIn (.var 7) (.var 2)) (.var 4) (.var 7))) (.cons (.asg (.var 2) (.add (.var 2) (.ite (.cmp .isIn (.var 7) (.var 2)) (.list (.nil)) (.list (.cons (.var 7) .nil))))) .nil))
theorem anew_turn {r a tl f : Addr} {th : List Int} {lo : V} {la k : Int} {w : PySem.Str} {vs : List V} {e8 e9 : Option V} {q : PostF} (htl : τ tl = some (.list true (th.map .int))) (stl : P1.stat tl = none) (ntf : tl ≠ f) (hlen : th.length ≤ 100) (hf : τ f = some (.list true vs)) (hv : vs.length ≤ 1000)
    (h : ∀ τ' tl', Kp [f] τ τ' → τ' f = some (.list true (vs ++ [.str (if k ∈ th then "22" else "00")])) → τ' tl' = some (.list true ((if k ∈ th then th else th ++ [k]).map .int)) → P1.stat tl' = none → tl' ≠ f → q .next [some (.ref r), some (.ref a), some (.ref tl'), some lo, some (.int (if k ∈ th then la else k)), some (.ref f), some (.str w), some (.int k), e8, e9] τ') :
    wpSs (P1.gx n) anewBody q [some (.ref r), some (.ref a), some (.ref tl), some lo, some (.int la), some (.ref f), some (.str w), some (.int k), e8, e9] τ := by
  rw [ss_cons_]
  refine app_at (i := 5) (vs := vs) rfl hf ?_
  rw [e_ite, c_cmp, e_var]
  refine ⟨.int k, rfl, ?_⟩
  rw [e_var]
  refine ⟨.ref tl, rfl, in_ints htl stl ?_⟩
  by_cases hk : k ∈ th
  · simp only [if_pos hk] at h
    rw [if_pos (by simpa using hk), e_str]
    refine ⟨vs, hf, by omega, (fun _ => nofun), ?_⟩
    have k1 : Kp [f] τ (τ.set f (.list true (vs ++ [.str "22"]))) := Kp.put hf (by simp [keeps])
    have hf1 : (τ.set f (.list true (vs ++ [.str "22"]))) f = some (.list true (vs ++ [.str "22"])) := Sto.set_self _ _ _
    have ht1 := k1.list htl (by simpa using ntf)
    generalize τ.set f (.list true (vs ++ [.str "22"])) = τ1 at *
    rw [ss_cons_, s_asg, e_ite, c_cmp, e_var]
    refine ⟨.int k, rfl, ?_⟩
    rw [e_var]
    refine ⟨.ref tl, rfl, in_ints ht1 stl ?_⟩
    rw [if_pos (by simpa using hk), e_var]
    refine ⟨.int la, rfl, ?_⟩
    rw [t_var]
    refine ⟨by simp, ?_⟩
    show wpSs (P1.gx n) _ q [some (.ref r), some (.ref a), some (.ref tl), some lo, some (.int la), some (.ref f), some (.str w), some (.int k), e8, e9] τ1
    rw [ss_cons_, s_asg, e_add, e_var]
    refine ⟨.ref tl, rfl, ?_⟩
    rw [e_ite, c_cmp, e_var]
    refine ⟨.int k, rfl, ?_⟩
    rw [e_var]
    refine ⟨.ref tl, rfl, in_ints ht1 stl ?_⟩
    rw [if_pos (by simpa using hk), e_list, es_nil]
    intro l hl
    have k2 : Kp [] τ1 (τ1.set l (.list true [])) := Kp.new hl.1
    refine ⟨true, _, true, [], (look_dyn stl).trans (k2.list ht1), (look_dyn hl.2).trans (Sto.set_self _ _ _), by simp; omega, fun b hb => ?_⟩
    have hf2 := k2.list hf1
    have k3 : Kp [] (τ1.set l (.list true [])) ((τ1.set l (.list true [])).set b (.list true (th.map .int ++ []))) := Kp.new hb.1
    dsimp only
    rw [t_var]
    refine ⟨by simp, ?_⟩
    exact h _ b ((k1.trans k2.weak).trans k3.weak) (k3.list hf2) (by rw [Sto.set_self, List.append_nil]) hb.2 fun z => by have := hb.1; rw [z, hf2] at this; cases this
  · simp only [if_neg hk] at h
    rw [if_neg (by simpa using hk), e_str]
    refine ⟨vs, hf, by omega, (fun _ => nofun), ?_⟩
    have k1 : Kp [f] τ (τ.set f (.list true (vs ++ [.str "00"]))) := Kp.put hf (by simp [keeps])
    have hf1 : (τ.set f (.list true (vs ++ [.str "00"]))) f = some (.list true (vs ++ [.str "00"])) := Sto.set_self _ _ _
    have ht1 := k1.list htl (by simpa using ntf)
    generalize τ.set f (.list true (vs ++ [.str "00"])) = τ1 at *
    rw [ss_cons_, s_asg, e_ite, c_cmp, e_var]
    refine ⟨.int k, rfl, ?_⟩
    rw [e_var]
    refine ⟨.ref tl, rfl, in_ints ht1 stl ?_⟩
    rw [if_neg (by simpa using hk), e_var]
    refine ⟨.int k, rfl, ?_⟩
    rw [t_var]
    refine ⟨by simp, ?_⟩
    show wpSs (P1.gx n) _ q [some (.ref r), some (.ref a), some (.ref tl), some lo, some (.int k), some (.ref f), some (.str w), some (.int k), e8, e9] τ1
    rw [ss_cons_, s_asg, e_add, e_var]
    refine ⟨.ref tl, rfl, ?_⟩
    rw [e_ite, c_cmp, e_var]
    refine ⟨.int k, rfl, ?_⟩
    rw [e_var]
    refine ⟨.ref tl, rfl, in_ints ht1 stl ?_⟩
    rw [if_neg (by simpa using hk), e_list, es_cons, e_var]
    refine ⟨.int k, rfl, ?_⟩
    rw [es_nil]
    intro l hl
    have k2 : Kp [] τ1 (τ1.set l (.list true [.int k])) := Kp.new hl.1
    refine ⟨true, _, true, [.int k], (look_dyn stl).trans (k2.list ht1), (look_dyn hl.2).trans (Sto.set_self _ _ _), by simp; omega, fun b hb => ?_⟩
    have hf2 := k2.list hf1
    have k3 : Kp [] (τ1.set l (.list true [.int k])) ((τ1.set l (.list true [.int k])).set b (.list true (th.map .int ++ [.int k]))) := Kp.new hb.1
    dsimp only
    rw [t_var]
    refine ⟨by simp, ?_⟩
    exact h _ b ((k1.trans k2.weak).trans k3.weak) (k3.list hf2) (by rw [Sto.set_self, List.map_append]; rfl) hb.2 fun z => by have := hb.1; rw [z, hf2] at this; cases this
end Mine
end
section
open PySem
set_option Elab.async false
set_option maxRecDepth 100000
namespace Mine
variable {n : Nat} {σ σ' τ : Sto} {ε : Env0}
@[reducible] noncomputable def dueBody : PSs := .cons (.ite (.cmp .eq (.var 6) (.str "next")) nextBody (.cons (.ite (.cmp .eq (.var 6) (.str "delete")) delBody anewBody) .nil)) .nil
theorem step_del {M : Met} {d : Deed} (h1 : (d.1 == ("next" : PySem.Str)) = false) (h2 : (d.1 == ("delete" : PySem.Str)) = true) : stepM M d = (.at (.str (if d.2 ∈ M.th then "00" else "23")), { M with th := M.th.filter fun j => decide (j ≠ d.2) }) := by
  unfold stepM; rw [if_neg (by rw [h1]; decide), if_pos h2]
theorem step_anew {M : Met} {d : Deed} (h1 : (d.1 == ("next" : PySem.Str)) = false) (h2 : (d.1 == ("delete" : PySem.Str)) = false) : stepM M d = (.at (.str (if d.2 ∈ M.th then "22" else "00")), ⟨if d.2 ∈ M.th then M.th else M.th ++ [d.2], M.lo, if d.2 ∈ M.th then M.la else d.2⟩) := by
  unfold stepM; rw [if_neg (by rw [h1]; decide), if_neg (by rw [h2]; decide)]
  by_cases z : d.2 ∈ M.th
  · simp only [if_pos z]
  · simp only [if_neg z]
theorem due_loop {r a f : Addr} {src : AO} {q : PostF} :
    ∀ (ds : List Deed) (dv : List V) (M : Met) (tl : Addr) (vs : List V) (its : List It) (e6 e7 e8 e9 : Option V) (τ : Sto), Its τ dv (ds.map deedIt) → M.th.length + ds.length ≤ 60 → τ tl = some (.list true (M.th.map .int)) → P1.stat tl = none → tl ≠ f → τ f = some (.list true vs) → Its τ vs its → vs.length + ds.length ≤ 200 →
      (∀ τ', Kp [f] τ τ' → look (P1.gx n) τ' a = some src) →
      (∀ τ' vs' tl' z6 z7 z8 z9, τ' f = some (.list true vs') → Its τ' vs' (its ++ metF M ds) → τ' tl' = some (.list true ((metE M ds).th.map .int)) → P1.stat tl' = none → (metE M ds).th.length ≤ 60 → Kp [f] τ τ' → q .next [some (.ref r), some (.ref a), some (.ref tl'), some (loV (metE M ds).lo), some (.int (metE M ds).la), some (.ref f), z6, z7, z8, z9] τ') →
      goFor (P1.gx n) (wpT (P1.gx n) (.tup (.cons (.var 6) (.cons (.var 7) .nil)))) (wpSs (P1.gx n) dueBody) a src q dv [some (.ref r), some (.ref a), some (.ref tl), some (loV M.lo), some (.int M.la), some (.ref f), e6, e7, e8, e9] τ := by
  intro ds
  induction ds with
  | nil =>
    intro dv M tl vs its e6 e7 e8 e9 τ hd hm htl stl ntf hf hits hlen hsrc hq
    cases hd
    exact ⟨hsrc τ Kp.refl, hq τ vs tl _ _ _ _ hf (by simpa [metF] using hits) htl stl (show M.th.length ≤ 60 by simpa using hm) Kp.refl⟩
  | cons d rr ih =>
    intro dv M tl vs its e6 e7 e8 e9 τ hd hm htl stl ntf hf hits hlen hsrc hq
    cases hd with
    | @cons v _ dv _ hv hd =>
      obtain ⟨t, rfl, ht⟩ := hv
      simp only [List.length_cons] at hm hlen
      refine ⟨hsrc τ Kp.refl, ?_⟩
      rw [t_tup]
      refine ⟨t, _, rfl, ht, rfl, ?_⟩
      refine ⟨_, _, rfl, by simp, _, _, rfl, by simp, rfl, ?_⟩
      have fin : ∀ (y : V) (τ1 : Sto) (tl1 : Addr) (e8' e9' : Option V), Kp [f] τ τ1 → τ1 f = some (.list true (vs ++ [y])) → ItAt τ1 y (stepM M d).1 → τ1 tl1 = some (.list true ((stepM M d).2.th.map .int)) → P1.stat tl1 = none → tl1 ≠ f → (stepM M d).2.th.length ≤ M.th.length + 1 →
          goFor (P1.gx n) (wpT (P1.gx n) (.tup (.cons (.var 6) (.cons (.var 7) .nil)))) (wpSs (P1.gx n) dueBody) a src q dv [some (.ref r), some (.ref a), some (.ref tl1), some (loV (stepM M d).2.lo), some (.int (stepM M d).2.la), some (.ref f), some (.str d.1), some (.int d.2), e8', e9'] τ1 := by
        intro y τ1 tl1 e8' e9' k1 hf1 hy htl1 stl1 ntf1 hl1
        refine ih dv (stepM M d).2 tl1 (vs ++ [y]) (its ++ [(stepM M d).1]) _ _ _ _ τ1 (hd.keep k1) (by omega) htl1 stl1 ntf1 hf1 ((hits.keep k1).snoc hy) (by simp; omega) (fun τ' k => hsrc τ' (k1.trans k)) fun τ' vs' tl' z6 z7 z8 z9 b1 b2 b3 b4 b5 b6 => ?_
        refine hq τ' vs' tl' z6 z7 z8 z9 b1 ?_ b3 b4 b5 (k1.trans b6)
        rw [List.append_assoc] at b2; exact b2
      show wpSs (P1.gx n) dueBody _ [some (.ref r), some (.ref a), some (.ref tl), some (loV M.lo), some (.int M.la), some (.ref f), some (.str d.1), some (.int d.2), e8, e9] τ
      rw [ss_cons_, s_ite, c_cmp, e_var]
      refine ⟨.str d.1, rfl, ?_⟩
      rw [e_str]
      refine str_eq ?_
      cases h1 : (d.1 == ("next" : PySem.Str)) with
      | true =>
        rw [if_pos rfl]
        refine next_turn h1 htl stl (by omega) hf (by omega) fun τ1 y e8' e9' k1 hf1 hy => ?_
        dsimp only
        rw [ss_nil_]
        refine fin y τ1 tl e8' e9' k1 hf1 hy ?_ stl ntf ?_
        · rw [step_next h1]; exact k1.list htl (by simpa using ntf)
        · rw [step_next h1]; exact Nat.le_succ _
      | false =>
        rw [if_neg (by decide), ss_cons_, s_ite, c_cmp, e_var]
        refine ⟨.str d.1, rfl, ?_⟩
        rw [e_str]
        refine str_eq ?_
        cases h2 : (d.1 == ("delete" : PySem.Str)) with
        | true =>
          rw [if_pos rfl]
          refine del_turn htl stl ntf (by omega) hf (by omega) fun τ1 tl1 k1 hf1 htl1 stl1 ntf1 => ?_
          dsimp only
          rw [ss_nil_]
          have hh := fin _ τ1 tl1 e8 e9 k1 hf1
          rw [step_del h1 h2] at hh
          exact hh rfl htl1 stl1 ntf1 (Nat.le_succ_of_le (List.length_filter_le _ _))
        | false =>
          rw [if_neg (by decide)]
          refine anew_turn htl stl ntf (by omega) hf (by omega) fun τ1 tl1 k1 hf1 htl1 stl1 ntf1 => ?_
          dsimp only
          rw [ss_nil_]
          have hh := fin _ τ1 tl1 e8 e9 k1 hf1
          rw [step_anew h1 h2] at hh
          refine hh rfl htl1 stl1 ntf1 ?_
          dsimp only
          by_cases z : d.2 ∈ M.th
          · rw [if_pos z]; exact Nat.le_succ _
          · rw [if_neg z, List.length_append]; exact Nat.le_refl _
end Mine
end
section
open PySem
set_option Elab.async false
set_option maxRecDepth 100000
namespace Mine
variable {n : Nat} {σ σ' τ : Sto} {ε : Env0}
theorem sp_metdue {r a : Addr} {src : AO} {dv : List V} {es : List (Int × V)} {ep m : Nat} {ds : List Deed} {q : Post} (gd : Gd es m) (hm : m + ds.length ≤ 60) (hr : σ r = some (.dict es ep)) (hsr : P1.stat r = none)
    (hi : itemsOf src = some dv) (hd : Its σ dv (ds.map deedIt)) (hsrc : ∀ τ, Kp [] σ τ → look (P1.gx n) τ a = some src)
    (h : ∀ σ' t f s vs, σ' t = some (.tup [.ref f, .ref s]) → P1.stat t = none → σ' f = some (.list true vs) → P1.stat f = none → Its σ' vs (metF (met0 es) ds) → σ' s = some (.list true ((sortI (metE (met0 es) ds).th).map .int)) → P1.stat s = none → Kp [] σ σ' → q (.ref t) σ') : fnW P1 (n + 1) 223 [.ref r, .ref a] q σ := by
  have hz : es.length ≤ 60 := by have := gd.few; omega
  refine ⟨_, rfl, ?_⟩
  show wpSs (P1.gx n) b_law_met_due _ _ _
  rw [ss_cons_, s_asg, e_tup, es_cons, e_bi, e_var]
  refine ⟨.ref r, rfl, _, _, _, (look_dyn hsr).trans hr, rfl, (fun _ => nofun), (fun _ => nofun), keys_ints es, by rw [List.length_map]; exact hz, fun s0 hs0 => ?_⟩
  have k1 : Kp [] σ (σ.set s0 (.list true ((sortI (es.map (·.1))).map .int))) := Kp.new hs0.1
  have h1 : (σ.set s0 (.list true ((sortI (es.map (·.1))).map .int))) s0 = some (.list true ((sortI (keys es)).map .int)) := Sto.set_self _ _ _
  generalize σ.set s0 (.list true ((sortI (es.map (·.1))).map .int)) = σ1 at *
  dsimp only
  rw [es_cons, e_int, es_cons, e_int, es_cons, e_list, es_nil]
  intro f hf
  have nsf : s0 ≠ f := fun e => by have := hf.1; rw [← e, h1] at this; cases this
  have σf : σ f = none := k1.2 f hf.1
  have k2 : Kp [] σ1 (σ1.set f (.list true [])) := Kp.new hf.1
  have hf2 : (σ1.set f (.list true [])) f = some (.list true []) := Sto.set_self _ _ _
  have h2 := k2.list h1
  generalize σ1.set f (.list true []) = σ2 at *
  rw [es_nil]
  intro t ht
  have k3 : Kp [] σ2 (σ2.set t (.tup [.ref s0, .int 0, .int 0, .ref f])) := Kp.new ht.1
  have ht3 : (σ2.set t (.tup [.ref s0, .int 0, .int 0, .ref f])) t = some (.tup [.ref s0, .int 0, .int 0, .ref f]) := Sto.set_self _ _ _
  have hf3 := k3.list hf2
  have h3 := k3.list h2
  generalize σ2.set t (.tup [.ref s0, .int 0, .int 0, .ref f]) = σ3 at *
  have kk3 : Kp [] σ σ3 := (k1.trans k2).trans k3
  rw [t_tup]
  refine ⟨t, _, rfl, (look_dyn ht.2).trans ht3, rfl, ?_⟩
  refine ⟨_, _, rfl, by simp, _, _, rfl, by simp, _, _, rfl, by simp, _, _, rfl, by simp, rfl, ?_⟩
  show wpSs (P1.gx n) _ (retW q) [some (.ref r), some (.ref a), some (.ref s0), some (loV (met0 es).lo), some (.int (met0 es).la), some (.ref f), none, none, none, none] σ3
  rw [ss_cons_, s_for, e_var]
  have hl : (met0 es).th.length ≤ m := by show (sortI (keys es)).length ≤ m; rw [sortI_length, keys_length]; exact gd.few
  refine ⟨.ref a, rfl, a, src, dv, rfl, hsrc _ kk3, hi, by rw [hd.length, List.length_map]; omega, ?_⟩
  refine due_loop ds dv (met0 es) s0 [] [] none none none none σ3 (hd.keep kk3) (by omega) h3 hs0.2 nsf hf3 .nil (by simp; omega) (fun τ' k => hsrc τ' (Kp.drop σf (kk3.weak.trans k))) fun τ vs tl z6 z7 z8 z9 b1 b2 b3 b4 b5 b6 => ?_
  dsimp only
  rw [ss_cons_, s_ret, e_tup, es_cons, e_var]
  refine ⟨.ref f, rfl, ?_⟩
  rw [es_cons, e_bi, e_var]
  refine ⟨.ref tl, rfl, _, _, (metE (met0 es) ds).th, (look_dyn b4).trans b3, rfl, (fun _ => nofun), (fun _ => nofun), intsOf_map' _, b5, fun s hs => ?_⟩
  have k5 : Kp [] τ (τ.set s (.list true ((sortI (metE (met0 es) ds).th).map .int))) := Kp.new hs.1
  have h5 : (τ.set s (.list true ((sortI (metE (met0 es) ds).th).map .int))) s = _ := Sto.set_self _ _ _
  have hf5 := k5.list b1
  generalize τ.set s (.list true ((sortI (metE (met0 es) ds).th).map .int)) = τ5 at *
  dsimp only
  rw [es_nil]
  intro u hu
  have k6 : Kp [] τ5 (τ5.set u (.tup [.ref f, .ref s])) := Kp.new hu.1
  have kk : Kp [f] σ (τ5.set u (.tup [.ref f, .ref s])) := ((kk3.weak.trans b6).trans k5.weak).trans k6.weak
  exact h _ u f s vs (Sto.set_self _ _ _) hu.2 (k6.list hf5) hf.2 (((show Its τ vs _ from b2).keep k5).keep k6) (k6.list h5) hs.2 (kk.drop σf)
end Mine
end
section
open PySem
set_option Elab.async false
set_option maxRecDepth 100000
namespace Mine
variable {n : Nat} {σ σ' τ : Sto} {ε : Env0}
theorem e_compE {Γ : Gx} {elt it : PE} {t : Nat} {q : Post} : wpE Γ (.compE elt t it) q ε σ = wpE Γ it (fun v σ' => ∃ a m xs, v = .ref a ∧ look Γ σ' a = some (.list m xs) ∧ xs.length ≤ 1000 ∧
      goCompE Γ (wpE Γ elt) t a (.list m xs) (fun ys σ'' => ∀ l, New Γ σ'' l → q (.ref l) (σ''.set l (.list true ys))) 0 xs [] ((ε ++ [none]) ++ [none]) σ') ε σ := rfl
@[reducible] noncomputable def dueElt : PE := .ite (.and (.cmp .isIn (.var 8) (.var 0)) (.cmp .notIn (.var 8) (.upto (.var 1) (.var 7)))) (.str "00") (.str "23")
theorem dues_comp {r o : Addr} {es : List (Int × V)} {N : List Int} {e2 e3 e4 e5 e6 : Option V} {q : List V → Sto → Prop} (hsr : P1.stat r = none) (hso : P1.stat o = none) : ∀ (ks dn : List Int) (z1 z2 : Option V) (acc : List V) (τ : Sto) (ep : Nat), N = dn ++ ks →
    τ r = some (.dict es ep) → τ o = some (.list true (N.map .int)) → (∀ τ', Kp [] τ τ' → q (acc ++ emptF es ks dn) τ') →
    goCompE (P1.gx n) (wpE (P1.gx n) dueElt) 7 o (.list true (N.map .int)) q dn.length (ks.map .int) acc [some (.ref r), some (.ref o), e2, e3, e4, e5, e6, z1, z2] τ
  | [], dn, z1, z2, acc, τ, ep, hN, hr, ho, h => ⟨(look_dyn hso).trans ho, by have := h τ Kp.refl; rw [show emptF es [] dn = [] from rfl, List.append_nil] at this; exact this⟩
  | k :: ks, dn, z1, z2, acc, τ, ep, hN, hr, ho, h => by
    refine ⟨(look_dyn hso).trans ho, ?_⟩
    show wpE (P1.gx n) dueElt _ [some (.ref r), some (.ref o), e2, e3, e4, e5, e6, some (.int dn.length), some (.int k)] τ
    have next : ∀ τ1, Kp [] τ τ1 → goCompE (P1.gx n) (wpE (P1.gx n) dueElt) 7 o (.list true (N.map .int)) q (dn.length + 1) (ks.map .int) (acc ++ [.str (delS (delK dn es) k)]) [some (.ref r), some (.ref o), e2, e3, e4, e5, e6, some (.int dn.length), some (.int k)] τ1 := by
      intro τ1 k1
      have := dues_comp (e2 := e2) (e3 := e3) (e4 := e4) (e5 := e5) (e6 := e6) hsr hso ks (dn ++ [k]) (some (.int dn.length)) (some (.int k)) (acc ++ [.str (delS (delK dn es) k)]) τ1 ep (by rw [hN, List.append_assoc]; rfl) (k1.dict hr) (k1.list ho) fun τ' k2 => by
        have := h τ' (k1.trans k2)
        rw [List.append_assoc]
        exact this
      rw [List.length_append] at this
      exact this
    rw [e_ite, c_and, c_cmp, e_var]
    refine ⟨.int k, rfl, ?_⟩
    rw [e_var]
    refine ⟨.ref r, rfl, in_dict hr hsr ?_⟩
    by_cases hk : k ∈ keys es
    · rw [if_pos (isSome_getE.mpr hk), c_cmp, e_var]
      refine ⟨.int k, rfl, ?_⟩
      show wpE (P1.gx n) (.upto (.var 1) (.var 7)) _ _ τ
      refine ⟨.ref o, rfl, .int dn.length, rfl, by omega, true, N.map .int, (look_dyn hso).trans ho, fun l hl => ?_⟩
      have et : ((N.map V.int).take ((dn.length : Int)).toNat) = dn.map .int := by
        rw [hN, List.map_append, Int.toNat_natCast, List.take_left' (by rw [List.length_map])]
      rw [et]
      have k1 : Kp [] τ (τ.set l (.list true (dn.map .int))) := Kp.new hl.1
      refine notin_ints (Sto.set_self _ _ _) hl.2 ?_
      have nx := next _ k1
      unfold delS at nx
      by_cases hd : k ∈ dn
      · rw [if_neg (fun z => (mem_delK.mp z).2 hd)] at nx
        rw [if_neg (by simpa using hd), e_str]
        exact nx
      · rw [if_pos (mem_delK.mpr ⟨hk, hd⟩)] at nx
        rw [if_pos (by simpa using hd), e_str]
        exact nx
    · have nx := next τ Kp.refl
      unfold delS at nx
      rw [if_neg (fun z => hk (mem_delK.mp z).1)] at nx
      rw [if_neg (fun z => hk (isSome_getE.mp z)), if_neg (by decide), e_str]
      exact nx
end Mine
end
section
open PySem
set_option Elab.async false
set_option maxRecDepth 100000
namespace Mine
variable {n : Nat} {σ σ' τ : Sto} {ε : Env0}
theorem putE_new : ∀ {es : List (Int × V)} {k : Int} {y : V}, k ∉ keys es → putE k y es = es ++ [(k, y)]
  | [], _, _, _ => rfl
  | p :: r, k, y, h => by
    have h : k ≠ p.1 ∧ k ∉ keys r := ⟨fun z => h (z ▸ List.mem_cons_self), fun z => h (List.mem_cons_of_mem _ z)⟩
    unfold putE
    rw [if_neg (Ne.symm h.1), putE_new h.2]; rfl
theorem foldl_put : ∀ (ps es : List (Int × V)), (keys (es ++ ps)).Nodup → ps.foldl (fun es p => putE p.1 p.2 es) es = es ++ ps
  | [], es, _ => (List.append_nil es).symm
  | p :: r, es, h => by
    have hno : p.1 ∉ keys es := fun z => by
      unfold keys at h z
      rw [List.map_append, List.nodup_append] at h
      exact h.2.2 _ z p.1 (List.mem_map_of_mem (List.mem_cons_self)) rfl
    show r.foldl _ (putE p.1 p.2 es) = _
    rw [putE_new hno]
    have e : es ++ p :: r = es ++ [(p.1, p.2)] ++ r := by simp
    rw [foldl_put r _ (by rw [← e]; exact h), ← e]
noncomputable def pairIt (p : Int × V) : It := .tup [.int p.1, p.2]
theorem pairs_its : ∀ {ps : List (Int × V)} {vs : List V}, Its σ vs (ps.map pairIt) → pairsOf (look (P1.gx n) σ) vs = some ps
  | [], _, h => by cases h; rfl
  | p :: r, _, h => by
    cases h with
    | cons a h =>
      obtain ⟨t, rfl, a1⟩ := a
      unfold pairsOf
      rw [show look (P1.gx n) σ t = _ from a1]
      dsimp only
      rw [pairs_its h]; rfl
theorem left_comp {r o : Addr} {es : List (Int × V)} {ep : Nat} {N : List Int} {e2 e3 e4 e5 e6 : Option V} {q : List V → Sto → Prop} (hsr : P1.stat r = none) (hso : P1.stat o = none) : ∀ (ps : List (Int × V)) (z : Option V) (acc : List V) (its : List It) (τ : Sto), (∀ p ∈ ps, getE p.1 es = some p.2) →
    τ r = some (.dict es ep) → τ o = some (.list true (N.map .int)) → Its τ acc its → (∀ τ' ts, Kp [] τ τ' → Its τ' ts (its ++ (delK N ps).map pairIt) → q ts τ') →
    goComp (P1.gx n) (wpE (P1.gx n) (.tup (.cons (.var 7) (.cons (.sub (.var 0) (.var 7)) .nil)))) (wpC (P1.gx n) (.cmp .notIn (.var 7) (.var 1))) 7 r (.dict es ep) q (ps.map fun p => .int p.1) acc [some (.ref r), some (.ref o), e2, e3, e4, e5, e6, z] τ
  | [], z, acc, its, τ, hp, hr, ho, hi, h => ⟨(look_dyn hsr).trans hr, h τ acc Kp.refl (by simpa [delK] using hi)⟩
  | p :: ps, z, acc, its, τ, hp, hr, ho, hi, h => by
    refine ⟨(look_dyn hsr).trans hr, ?_⟩
    rw [c_cmp, e_var]
    refine ⟨.int p.1, rfl, ?_⟩
    rw [e_var]
    refine ⟨.ref o, rfl, notin_ints ho hso ?_⟩
    by_cases hk : p.1 ∈ N
    · rw [if_neg (by simpa using hk)]
      refine left_comp hsr hso ps _ acc its τ (fun p h => hp p (.tail _ h)) hr ho hi fun τ' ts k2 h2 => h τ' ts k2 ?_
      rw [show delK N (p :: ps) = delK N ps from List.filter_cons_of_neg (by simpa using hk)]
      exact h2
    · rw [if_pos (by simpa using hk), e_tup, es_cons, e_var]
      refine ⟨.int p.1, rfl, ?_⟩
      rw [es_cons, e_sub, e_var]
      refine ⟨.ref r, rfl, ?_⟩
      rw [e_var]
      refine ⟨.int p.1, rfl, sub_dict hr hsr (hp p (.head _)) ?_⟩
      rw [es_nil]
      intro t ht
      have k1 : Kp [] τ (τ.set t (.tup [.int p.1, p.2])) := Kp.new ht.1
      refine left_comp hsr hso ps _ _ (its ++ [pairIt p]) _ (fun p h => hp p (.tail _ h)) (k1.dict hr) (k1.list ho) ((hi.keep k1).snoc (ItAt.of (Sto.set_self _ _ _) ht.2)) fun τ' ts k2 h2 => h τ' ts (k1.trans k2) ?_
      rw [show delK N (p :: ps) = p :: delK N ps from List.filter_cons_of_pos (by simpa using hk), List.map_cons]
      rw [List.append_assoc] at h2
      exact h2
theorem gone_comp {r o a : Addr} {N : List Int} {xs : List V} {e2 e3 e4 e5 e6 : Option V} {q : List V → Sto → Prop} (hsa : P1.stat a = none) (hso : P1.stat o = none) : ∀ (ks : List Int) (z : Option V) (acc : List V) (its : List It) (τ : Sto),
    τ a = some (.list true xs) → τ o = some (.list true (N.map .int)) → Its τ acc its → (∀ τ' ts, Kp [] τ τ' → Its τ' ts (its ++ (ks.filter fun k => decide (k ∈ N)).map goneIt) → q ts τ') →
    goComp (P1.gx n) (wpE (P1.gx n) (.tup (.cons (.var 7) (.cons (.str "00") .nil)))) (wpC (P1.gx n) (.cmp .isIn (.var 7) (.var 1))) 7 a (.list true xs) q (ks.map .int) acc [some (.ref r), some (.ref o), e2, e3, e4, e5, e6, z] τ
  | [], z, acc, its, τ, ha, ho, hi, h => ⟨(look_dyn hsa).trans ha, h τ acc Kp.refl (by simpa using hi)⟩
  | k :: ks, z, acc, its, τ, ha, ho, hi, h => by
    refine ⟨(look_dyn hsa).trans ha, ?_⟩
    rw [c_cmp, e_var]
    refine ⟨.int k, rfl, ?_⟩
    rw [e_var]
    refine ⟨.ref o, rfl, in_ints ho hso ?_⟩
    by_cases hk : k ∈ N
    · rw [if_pos (by simpa using hk), e_tup, es_cons, e_var]
      refine ⟨.int k, rfl, ?_⟩
      rw [es_cons, e_str, es_nil]
      intro t ht
      have k1 : Kp [] τ (τ.set t (.tup [.int k, .str "00"])) := Kp.new ht.1
      refine gone_comp hsa hso ks _ _ (its ++ [goneIt k]) _ (k1.list ha) (k1.list ho) ((hi.keep k1).snoc (ItAt.of (Sto.set_self _ _ _) ht.2)) fun τ' ts k2 h2 => h τ' ts (k1.trans k2) ?_
      rw [List.filter_cons_of_pos (by simpa using hk), List.map_cons]
      rw [List.append_assoc] at h2
      exact h2
    · rw [if_neg (by simpa using hk)]
      refine gone_comp hsa hso ks _ acc its τ ha ho hi fun τ' ts k2 h2 => h τ' ts k2 ?_
      rw [List.filter_cons_of_neg (by simpa using hk)]
      exact h2
end Mine
end
section
open PySem
set_option Elab.async false
set_option maxRecDepth 100000
namespace Mine
variable {n : Nat} {σ σ' τ : Sto} {ε : Env0}
theorem allEq_itsM {m : Nat} {vs : List V} {is : List It} (h : Its σ vs is) : ∀ {ws : List V}, Its σ ws is → (∀ i ∈ is, i.ok) → allEq (eqV (look (P1.gx n) σ) (m + 1)) vs ws = some true := by
  induction h with
  | nil => intro ws h2 _; cases h2; rfl
  | @cons v i vs is a _ ih =>
    intro ws h2 ho
    cases h2 with
    | @cons w _ ws _ b h2 =>
      have e : eqV (look (P1.gx n) σ) (m + 1) v w = some true := by
        have := ho i (.head _)
        cases i with
        | «at» x =>
          have a : v = x := a
          have b : w = x := b
          rw [a, b]; exact eq_atom this
        | tup xs =>
          obtain ⟨t, rfl, a1⟩ := a
          obtain ⟨t', rfl, b1⟩ := b
          unfold eqV
          rw [show look (P1.gx n) σ t = _ from a1, show look (P1.gx n) σ t' = _ from b1]
          dsimp only
          rw [if_pos rfl]
          exact allEq_atoms this
      unfold allEq
      rw [e, ih h2 fun j hj => ho j (.tail _ hj)]
      rfl
theorem eqV_lists {m : Nat} {l g : Addr} {b b' : Bool} {vs ws : List V} {is : List It} (hl : σ l = some (.list b vs)) (sl : P1.stat l = none) (hg : σ g = some (.list b' ws)) (sg : P1.stat g = none) (h : Its σ vs is) (h' : Its σ ws is) (ho : ∀ i ∈ is, i.ok) :
    eqV (look (P1.gx n) σ) (m + 2) (.ref l) (.ref g) = some true := by
  unfold eqV
  rw [look_dyn sl, look_dyn sg, hl, hg]
  dsimp only
  rw [if_pos (by rw [h.length, h'.length]), allEq_itsM h h' ho]
theorem eq_swept {t u l d g e : Addr} {s : PySem.Str} {vs ws : List V} {is : List It} (ht : σ t = some (.tup [.ref l, .ref d, .str s])) (st : P1.stat t = none) (hu : σ u = some (.tup [.ref g, .ref e, .str s])) (su : P1.stat u = none)
    (hl : σ l = some (.list true vs)) (sl : P1.stat l = none) (hg : σ g = some (.list true ws)) (sg : P1.stat g = none) (hd : σ d = some (.list true [])) (sd : P1.stat d = none) (he : σ e = some (.list true [])) (se : P1.stat e = none)
    (h : Its σ vs is) (h' : Its σ ws is) (ho : ∀ i ∈ is, i.ok) : eqT (look (P1.gx n) σ) (.ref t) (.ref u) = some true := by
  unfold eqT
  dsimp only
  rw [look_dyn st, look_dyn su, ht, hu]
  dsimp only
  unfold eqV
  rw [look_dyn st, look_dyn su, ht, hu]
  dsimp only
  rw [if_pos (show [V.ref l, V.ref d, V.str s].length = [V.ref g, V.ref e, V.str s].length from rfl)]
  have e1 : eqV (look (P1.gx n) σ) 3 (.ref l) (.ref g) = some true := eqV_lists (m := 1) hl sl hg sg h h' ho
  have e2 : eqV (look (P1.gx n) σ) 3 (.ref d) (.ref e) = some true := eqV_lists (m := 1) hd sd he se .nil .nil (fun _ h => nomatch h)
  have e3 : eqV (look (P1.gx n) σ) 3 (.str s) (.str s) = some true := by simp [eqV]
  unfold allEq
  rw [e1]
  unfold allEq
  rw [e2]
  unfold allEq
  rw [e3]
  rfl
end Mine
end
section
open PySem
set_option Elab.async false
set_option maxRecDepth 100000
namespace Mine
variable {n : Nat} {σ σ' τ : Sto} {ε : Env0}
theorem bi_dict {Γ : Gx} {c : Addr} {es : List (Int × V)} {ep : Nat} {q : Post} (hc : look Γ σ c = some (.dict es ep)) (hl : es.length ≤ 1000) (h : ∀ l, New Γ σ l → ∀ ep, q (.ref l) (σ.set l (.dict es ep))) : biW Γ .dict (.ref c) q σ := by
  unfold biW
  dsimp only
  rw [hc]
  exact ⟨hl, h⟩
theorem bi_pairs {Γ : Gx} {c : Addr} {m : Bool} {vs : List V} {ps : List (Int × V)} {q : Post} (hc : look Γ σ c = some (.list m vs)) (hp : pairsOf (look Γ σ) vs = some ps) (hn : (keys ps).Nodup) (hl : ps.length ≤ 1000) (h : ∀ l, New Γ σ l → ∀ ep, q (.ref l) (σ.set l (.dict ps ep))) : biW Γ .dict (.ref c) q σ := by
  unfold biW
  dsimp only
  rw [hc]
  refine ⟨ps, hp, hl, fun l nl ep => ?_⟩
  rw [foldl_put ps [] hn]
  exact h l nl ep
theorem emptF_atoms {es : List (Int × V)} : ∀ {ks dn : List Int}, Its σ (emptF es ks dn) ((emptF es ks dn).map .at) ∧ ∀ i ∈ (emptF es ks dn).map It.at, i.ok
  | [], _ => ⟨.nil, fun _ h => nomatch h⟩
  | k :: ks, dn => by
    obtain ⟨a, b⟩ := emptF_atoms (es := es) (ks := ks) (dn := dn ++ [k])
    refine ⟨.cons rfl a, fun i hi => ?_⟩
    rcases List.mem_cons.mp hi with z | z
    · subst z; rfl
    · exact b i z
theorem goneF_ok {es : List (Int × V)} {N : List Int} : ∀ i ∈ goneF es N, i.ok := fun i hi => by
  obtain ⟨k, _, rfl⟩ := List.mem_map.mp hi
  intro x hx
  simp only [List.mem_cons, List.not_mem_nil, or_false] at hx
  rcases hx with rfl | rfl <;> rfl
end Mine
end
section
open PySem
set_option Elab.async false
set_option maxRecDepth 100000
namespace Mine
variable {n : Nat} {σ σ' τ : Sto} {ε : Env0}
theorem sp_right {r o : Addr} {es : List (Int × V)} {ep : Nat} {N : List Int} {q : Post} (g : Good es) (oc : Oct es) (hr : σ r = some (.dict es ep)) (hsr : P1.stat r = none) (ho : σ o = some (.list true (N.map .int))) (hso : P1.stat o = none) (hlen : N.length ≤ 100)
    (h : ∀ σ', Kp [] σ σ' → q (.bool true) σ') : fnW P1 (n + 5) 228 [.ref r, .ref o] q σ := by
  have hz := g.few
  refine ⟨_, rfl, ?_⟩
  show wpSs (P1.gx (n + 4)) b_law_right _ _ _
  -- two dicts
  rw [ss_cons_, s_asg, e_tup, es_cons, e_bi, e_var]
  refine ⟨.ref r, rfl, bi_dict ((look_dyn hsr).trans hr) (by omega) fun c1 hc1 ep1 => ?_⟩
  have n1 : σ c1 = none := hc1.1
  have k1 : Kp [] σ (σ.set c1 (.dict es ep1)) := Kp.new hc1.1
  have c11 : (σ.set c1 (.dict es ep1)) c1 = some (.dict es ep1) := Sto.set_self _ _ _
  have hr1 := k1.dict hr
  have ho1 := k1.list ho
  generalize σ.set c1 (.dict es ep1) = σ1 at *
  rw [es_cons, e_bi, e_var]
  refine ⟨.ref r, rfl, bi_dict ((look_dyn hsr).trans hr1) (by omega) fun c2 hc2 ep2 => ?_⟩
  have n2 : σ c2 = none := k1.2 c2 hc2.1
  have k2 : Kp [] σ1 (σ1.set c2 (.dict es ep2)) := Kp.new hc2.1
  have c22 : (σ1.set c2 (.dict es ep2)) c2 = some (.dict es ep2) := Sto.set_self _ _ _
  have c12 := k2.dict c11
  have hr2 := k2.dict hr1
  have ho2 := k2.list ho1
  have n12 : c1 ≠ c2 := fun z => by have := hc2.1; rw [← z, c11] at this; cases this
  generalize σ1.set c2 (.dict es ep2) = σ2 at *
  rw [es_nil]
  intro t ht
  have k3 : Kp [] σ2 (σ2.set t (.tup [.ref c1, .ref c2])) := Kp.new ht.1
  have ht3 : (σ2.set t (.tup [.ref c1, .ref c2])) t = some (.tup [.ref c1, .ref c2]) := Sto.set_self _ _ _
  have c13 := k3.dict c12
  have c23 := k3.dict c22
  have hr3 := k3.dict hr2
  have ho3 := k3.list ho2
  generalize σ2.set t (.tup [.ref c1, .ref c2]) = σ3 at *
  have kk3 : Kp [] σ σ3 := (k1.trans k2).trans k3
  rw [t_rev]
  refine ⟨t, _, rfl, (look_dyn ht.2).trans ht3, rfl, ?_⟩
  show wpSs (P1.gx (n + 4)) _ (retW q) [some (.ref r), some (.ref o), some (.ref c1), some (.ref c2), none, none, none] σ3
  -- left
  rw [ss_cons_, s_asg, e_bi, e_comp, e_var]
  refine ⟨.ref r, rfl, r, _, _, rfl, (look_dyn hsr).trans hr3, rfl, by rw [List.length_map]; omega, ?_⟩
  refine left_comp hsr hso es none [] [] σ3 (fun p hp => getE_self g.nodup hp) hr3 ho3 .nil fun σ4 ts k4 its4 => ?_
  intro l hl
  have hr4 := k4.dict hr3
  have ho4 := k4.list ho3
  have c14 := k4.dict c13
  have c24 := k4.dict c23
  have k5 : Kp [] σ4 (σ4.set l (.list true ts)) := Kp.new hl.1
  have hl5 : (σ4.set l (.list true ts)) l = some (.list true ts) := Sto.set_self _ _ _
  have its5 := its4.keep k5
  have hr5 := k5.dict hr4
  have ho5 := k5.list ho4
  have c15 := k5.dict c14
  have c25 := k5.dict c24
  generalize σ4.set l (.list true ts) = σ5 at *
  have kk5 : Kp [] σ σ5 := (kk3.trans k4).trans k5
  refine bi_pairs ((look_dyn hl.2).trans hl5) (pairs_its its5) (delK_nodup g.nodup) (Nat.le_trans (g.delK (ks := N)).few (by decide)) fun d hd epd => ?_
  have k6 : Kp [] σ5 (σ5.set d (.dict (delK N es) epd)) := Kp.new hd.1
  have hd6 : (σ5.set d (.dict (delK N es) epd)) d = some (.dict (delK N es) epd) := Sto.set_self _ _ _
  have hr6 := k6.dict hr5
  have ho6 := k6.list ho5
  have c16 := k6.dict c15
  have c26 := k6.dict c25
  have d1 : d ≠ c1 := fun z => by have := hd.1; rw [z, c15] at this; cases this
  have d2 : d ≠ c2 := fun z => by have := hd.1; rw [z, c25] at this; cases this
  generalize σ5.set d (.dict (delK N es) epd) = σ6 at *
  rw [t_var]
  refine ⟨by simp, ?_⟩
  dsimp only
  -- gone
  rw [ss_cons_, s_asg, e_comp, e_bi, e_var]
  refine ⟨.ref r, rfl, _, _, _, (look_dyn hsr).trans hr6, rfl, (fun _ => nofun), (fun _ => nofun), keys_ints es, by rw [List.length_map]; exact hz, fun a ha => ?_⟩
  have k7 : Kp [] σ6 (σ6.set a (.list true ((sortI (es.map (·.1))).map .int))) := Kp.new ha.1
  have ha7 : (σ6.set a (.list true ((sortI (es.map (·.1))).map .int))) a = some (.list true ((sortI (keys es)).map .int)) := Sto.set_self _ _ _
  have hr7 := k7.dict hr6
  have ho7 := k7.list ho6
  have c17 := k7.dict c16
  have c27 := k7.dict c26
  have hd7 := k7.dict hd6
  generalize σ6.set a (.list true ((sortI (es.map (·.1))).map .int)) = σ7 at *
  refine ⟨a, _, _, rfl, (look_dyn ha.2).trans ha7, rfl, by rw [List.length_map, sortI_length, keys_length]; omega, ?_⟩
  refine gone_comp ha.2 hso (sortI (keys es)) none [] [] σ7 ha7 ho7 .nil fun σ8 gs k8 its8 => ?_
  intro G hG
  have hr8 := k8.dict hr7
  have ho8 := k8.list ho7
  have c18 := k8.dict c17
  have c28 := k8.dict c27
  have hd8 := k8.dict hd7
  have k9 : Kp [] σ8 (σ8.set G (.list true gs)) := Kp.new hG.1
  have hG9 : (σ8.set G (.list true gs)) G = some (.list true gs) := Sto.set_self _ _ _
  have its9 : Its (σ8.set G (.list true gs)) gs (goneF es N) := its8.keep k9
  have hr9 := k9.dict hr8
  have ho9 := k9.list ho8
  have c19 := k9.dict c18
  have c29 := k9.dict c28
  have hd9 := k9.dict hd8
  have G1 : G ≠ c1 := fun z => by have := hG.1; rw [z, c18] at this; cases this
  have G2 : G ≠ c2 := fun z => by have := hG.1; rw [z, c28] at this; cases this
  generalize σ8.set G (.list true gs) = σ9 at *
  have kk9 : Kp [] σ σ9 := (((kk5.trans k6).trans k7).trans k8).trans k9
  rw [t_var]
  refine ⟨by simp, ?_⟩
  dsimp only
  have gE : Good (delK N es) := g.delK
  have oE : Oct (delK N es) := oc.delK
  have r1 : r ≠ c1 := fun z => by rw [← z, hr] at n1; cases n1
  have r2 : r ≠ c2 := fun z => by rw [← z, hr] at n2; cases n2
  have o1 : o ≠ c1 := fun z => by rw [← z, ho] at n1; cases n1
  have o2 : o ≠ c2 := fun z => by rw [← z, ho] at n2; cases n2
  -- swept
  rw [ss_cons_, s_ite, c_or, c_cmp, e_fnW, es_cons, e_var]
  refine ⟨.ref c1, rfl, ?_⟩
  rw [es_cons, e_var]
  refine ⟨.ref o, rfl, ?_⟩
  rw [es_nil]
  refine sp_swept (n := n) g oc c19 hc1.2 ho9 hso fun σa u sl sd vs epa hu su hsl ssl itsa hsd ssd c1a ka => ?_
  have hra := ka.dict hr9 (by simpa using r1)
  have hoa := ka.list ho9 (by simpa using o1)
  have c2a := ka.dict c29 (by simpa using n12.symm)
  have hda := ka.dict hd9 (by simpa using d1)
  have hGa := ka.list hG9 (by simpa using G1)
  have gsa := its9.keep ka
  rw [e_tup, es_cons, e_var]
  refine ⟨.ref G, rfl, ?_⟩
  rw [es_cons, e_list, es_nil]
  intro E hE
  have k10 : Kp [] σa (σa.set E (.list true [])) := Kp.new hE.1
  have hEb : (σa.set E (.list true [])) E = some (.list true []) := Sto.set_self _ _ _
  have hub := k10.tup hu
  have hslb := k10.list hsl
  have hsdb := k10.list hsd
  have itsb := itsa.keep k10
  have c1b := k10.dict c1a
  have hrb := k10.dict hra
  have hob := k10.list hoa
  have c2b := k10.dict c2a
  have hdb := k10.dict hda
  have hGb := k10.list hGa
  have gsb := gsa.keep k10
  generalize σa.set E (.list true []) = σb at *
  rw [es_cons, e_str, es_nil]
  intro w hw
  have k11 : Kp [] σb (σb.set w (.tup [.ref G, .ref E, .str "10"])) := Kp.new hw.1
  have hwc : (σb.set w (.tup [.ref G, .ref E, .str "10"])) w = some (.tup [.ref G, .ref E, .str "10"]) := Sto.set_self _ _ _
  have hEc := k11.list hEb
  have huc := k11.tup hub
  have hslc := k11.list hslb
  have hsdc := k11.list hsdb
  have itsc := itsb.keep k11
  have c1c := k11.dict c1b
  have hrc := k11.dict hrb
  have hoc := k11.list hob
  have c2c := k11.dict c2b
  have hdc := k11.dict hdb
  have hGc := k11.list hGb
  have gsc := gsb.keep k11
  generalize σb.set w (.tup [.ref G, .ref E, .str "10"]) = σc at *
  refine ⟨true, eq_swept huc su hwc hw.2 hslc ssl hGc hG.2 hsdc ssd hEc hE.2 itsc gsc goneF_ok, ?_⟩
  have kkc : Kp [c1] σ σc := ((kk9.weak.trans ka).trans k10.weak).trans k11.weak
  dsimp only
  rw [if_neg (by decide), c_cmp, e_var]
  refine ⟨.ref c1, rfl, ?_⟩
  rw [e_var]
  refine ⟨.ref d, rfl, true, eq_dicts gE oE c1c hc1.2 hdc hd.2, ?_⟩
  dsimp only
  rw [if_neg (by decide), ss_nil_]
  dsimp only
  -- dues
  rw [ss_cons_, s_asg, e_compE, e_var]
  refine ⟨.ref o, rfl, o, true, _, rfl, (look_dyn hso).trans hoc, by rw [List.length_map]; omega, ?_⟩
  refine dues_comp hsr hso N [] none none [] σc ep rfl hrc hoc fun σd kd => ?_
  intro D hD
  have k12 : Kp [] σd (σd.set D (.list true (emptF es N []))) := Kp.new hD.1
  have hDe : (σd.set D (.list true (emptF es N []))) D = some (.list true (emptF es N [])) := Sto.set_self _ _ _
  have c2e := k12.dict (kd.dict c2c)
  have hde := k12.dict (kd.dict hdc)
  have hoe := k12.list (kd.list hoc)
  have D2 : D ≠ c2 := fun z => by have := hD.1; rw [z, kd.dict c2c] at this; cases this
  have kke : Kp [c1] σ (σd.set D (.list true (emptF es N []))) := (kkc.trans kd.weak).trans k12.weak
  show wpT _ _ _ _ _ (σd.set D (.list true (emptF es N [])))
  generalize σd.set D (.list true (emptF es N [])) = σe at *
  rw [t_var]
  refine ⟨by simp, ?_⟩
  dsimp only
  -- emptied
  rw [ss_cons_, s_ret, e_and, e_cmp, e_fnW, es_cons, e_var]
  refine ⟨.ref c2, rfl, ?_⟩
  rw [es_cons, e_var]
  refine ⟨.ref o, rfl, ?_⟩
  rw [es_nil]
  refine sp_emptied (n := n) g oc c2e hc2.2 hoe hso hlen fun σf L epf hL sL c2f kf => ?_
  have hdf := kf.dict hde (by simpa using d2)
  have hDf := kf.list hDe (by simpa using D2)
  rw [e_var]
  obtain ⟨ia, ib⟩ := emptF_atoms (σ := σf) (es := es) (ks := N) (dn := [])
  refine ⟨.ref D, rfl, true, eq_lists hL sL hDf hD.2 ia ia ib, true, rfl, ?_⟩
  rw [if_pos rfl, e_cmp, e_var]
  refine ⟨.ref c2, rfl, ?_⟩
  rw [e_var]
  refine ⟨.ref d, rfl, true, eq_dicts gE oE c2f hc2.2 hdf hd.2, ?_⟩
  have kkf : Kp [c1, c2] σ σf := (kke.mono (by simp)).trans (kf.mono (by simp))
  exact h σf (Kp.drop n2 (Kp.drop n1 kkf))
end Mine
end
section
open PySem
set_option Elab.async false
set_option maxRecDepth 100000
namespace Mine
variable {n : Nat} {σ σ' τ : Sto} {ε : Env0}
noncomputable def wes : List (Int × V) := [(2, .bytes [98].toArray), (3, .bytes [99].toArray), (7, .bytes [103].toArray)]
theorem wes_good : Good wes := ⟨by show ([2, 3, 7] : List Int).Nodup; decide, by show ∀ k ∈ ([2, 3, 7] : List Int), 0 < k; decide, by decide⟩
theorem wes_oct : Oct wes := by
  intro p hp
  simp only [wes, List.mem_cons, List.not_mem_nil, or_false] at hp
  rcases hp with rfl | rfl | rfl <;> exact ⟨_, rfl⟩
noncomputable def wds : List Deed := [("next", 0), ("delete", 2), ("next", 0), ("delete", 7), ("write", 2), ("write", 4), ("next", 0), ("delete", 4), ("delete", 4), ("write", 6), ("write", 6), ("next", 0), ("next", 0), ("next", 0)]
noncomputable def wrefs : List V := [.ref 171, .ref 172, .ref 173, .ref 174, .ref 175, .ref 176, .ref 177, .ref 178, .ref 179, .ref 180, .ref 181, .ref 182, .ref 183, .ref 184]
noncomputable def told : List It := [.tup [.str "00", .int 2], .at (.str "00"), .tup [.str "00", .int 3], .at (.str "00"), .at (.str "00"), .at (.str "00"), .tup [.str "00", .int 4], .at (.str "00"), .at (.str "23"), .at (.str "00"), .at (.str "22"), .tup [.str "00", .int 6], .tup [.str "10", .int 6], .tup [.str "46", .int 6]]
noncomputable def trefs : List V := [.ref 186, .str "00", .ref 187, .str "00", .str "00", .str "00", .ref 188, .str "00", .str "23", .str "00", .str "22", .ref 189, .ref 190, .ref 191]
theorem look_stat {a : Addr} {o : AO} (h : P1.stat a = some o) : look (P1.gx n) σ a = some o := by
  unfold look
  show (match P1.stat a with | some o => some o | none => σ a) = _
  rw [h]
theorem at_stat {a : Addr} {xs : List V} (h : P1.stat a = some (.tup xs)) : ItAt σ (.ref a) (.tup xs) := ⟨a, rfl, by unfold lk; rw [h]⟩
theorem wds_its : Its σ wrefs (wds.map deedIt) := .cons (at_stat rfl) <| .cons (at_stat rfl) <| .cons (at_stat rfl) <| .cons (at_stat rfl) <| .cons (at_stat rfl) <| .cons (at_stat rfl) <| .cons (at_stat rfl) <| .cons (at_stat rfl) <| .cons (at_stat rfl) <| .cons (at_stat rfl) <| .cons (at_stat rfl) <| .cons (at_stat rfl) <| .cons (at_stat rfl) <| .cons (at_stat rfl) .nil
theorem told_its : Its σ trefs told := .cons (at_stat rfl) <| .cons rfl <| .cons (at_stat rfl) <| .cons rfl <| .cons rfl <| .cons rfl <| .cons (at_stat rfl) <| .cons rfl <| .cons rfl <| .cons rfl <| .cons rfl <| .cons (at_stat rfl) <| .cons (at_stat rfl) <| .cons (at_stat rfl) .nil
theorem sort_is {ks js : List Int} (hn : ks.Nodup) (hs : js.Pairwise (· < ·)) (hm : ∀ k, k ∈ ks ↔ k ∈ js) : sortI ks = js := sorted_ext (sortI_sorted hn) hs fun k => by rw [mem_sortI]; exact hm k
theorem nn : (("next" : PySem.Str) == ("next" : PySem.Str)) = true := by decide +kernel
theorem dn_ : ¬(("delete" : PySem.Str) == ("next" : PySem.Str)) = true := by decide +kernel
theorem dd : (("delete" : PySem.Str) == ("delete" : PySem.Str)) = true := by decide +kernel
theorem wn_ : ¬(("write" : PySem.Str) == ("next" : PySem.Str)) = true := by decide +kernel
theorem wd_ : ¬(("write" : PySem.Str) == ("delete" : PySem.Str)) = true := by decide +kernel
theorem nx_some {th S r : List Int} {l la x j : Int} (hs : sortI th = S) (ho : onward S (l + 1) = j :: r) : stepM ⟨th, some l, la⟩ ("next", x) = (.tup [.str "00", .int j], ⟨th, some j, j⟩) := by
  unfold stepM
  rw [if_pos nn]
  dsimp only
  rw [hs, ho]
theorem nx_end {th S : List Int} {l la x : Int} (hs : sortI th = S) (ho : onward S (l + 1) = []) : stepM ⟨th, some l, la⟩ ("next", x) = (.tup [.str "10", .int la], ⟨th, none, la⟩) := by
  unfold stepM
  rw [if_pos nn]
  dsimp only
  rw [hs, ho]
theorem nx_off {th : List Int} {la x : Int} : stepM ⟨th, none, la⟩ ("next", x) = (.tup [.str "46", .int la], ⟨th, none, la⟩) := by
  unfold stepM
  rw [if_pos nn]
theorem dl {th th' : List Int} {lo : Option Int} {la x : Int} {s : PySem.Str} (h : (if x ∈ th then ("00" : PySem.Str) else ("23" : PySem.Str)) = s) (h' : (th.filter fun j => decide (j ≠ x)) = th') : stepM ⟨th, lo, la⟩ ("delete", x) = (.at (.str s), ⟨th', lo, la⟩) := by
  unfold stepM
  rw [if_neg dn_, if_pos dd]
  dsimp only
  rw [h, h']
theorem wr_in {th : List Int} {lo : Option Int} {la x : Int} (h : x ∈ th) : stepM ⟨th, lo, la⟩ ("write", x) = (.at (.str "22"), ⟨th, lo, la⟩) := by
  unfold stepM
  rw [if_neg wn_, if_neg wd_, if_pos h]
theorem wr_new {th : List Int} {lo : Option Int} {la x : Int} (h : x ∉ th) : stepM ⟨th, lo, la⟩ ("write", x) = (.at (.str "00"), ⟨th ++ [x], lo, x⟩) := by
  unfold stepM
  rw [if_neg wn_, if_neg wd_, if_neg h]
theorem mf {M M' : Met} {d : Deed} {r : List Deed} {i : It} {is : List It} {E : Met} (h : stepM M d = (i, M')) (hr : metF M' r = is ∧ metE M' r = E) : metF M (d :: r) = i :: is ∧ metE M (d :: r) = E := by
  show (stepM M d).1 :: metF (stepM M d).2 r = _ ∧ metE (stepM M d).2 r = _
  rw [h]
  exact ⟨by rw [hr.1], hr.2⟩
theorem wds_told : metF (met0 wes) wds = told ∧ metE (met0 wes) wds = ⟨[3, 2, 6], none, 6⟩ := by
  have s1 : sortI [2, 3, 7] = [2, 3, 7] := sort_is (by decide) (by decide) fun _ => Iff.rfl
  have s2 : sortI [3, 7] = [3, 7] := sort_is (by decide) (by decide) fun _ => Iff.rfl
  have s3 : sortI [3, 2, 4] = [2, 3, 4] := sort_is (by decide) (by decide) fun k => by simp; omega
  have s4 : sortI [3, 2, 6] = [2, 3, 6] := sort_is (by decide) (by decide) fun k => by simp; omega
  show metF ⟨sortI [2, 3, 7], some 0, 0⟩ wds = told ∧ metE ⟨sortI [2, 3, 7], some 0, 0⟩ wds = _
  rw [s1]
  refine mf (nx_some s1 (r := [3, 7]) (by decide)) ?_
  refine mf (dl (s := "00") (th' := [3, 7]) (by decide) (by decide)) ?_
  refine mf (nx_some s2 (r := [7]) (by decide)) ?_
  refine mf (dl (s := "00") (th' := [3]) (by decide) (by decide)) ?_
  refine mf (wr_new (by decide)) ?_
  refine mf (wr_new (by decide)) ?_
  refine mf (nx_some s3 (r := []) (by decide)) ?_
  refine mf (dl (s := "00") (th' := [3, 2]) (by decide) (by decide)) ?_
  refine mf (dl (s := "23") (th' := [3, 2]) (by decide) (by decide)) ?_
  refine mf (wr_new (by decide)) ?_
  refine mf (wr_in (by decide)) ?_
  refine mf (nx_some s4 (r := []) (by decide)) ?_
  refine mf (nx_end s4 (by decide)) ?_
  exact mf nx_off ⟨rfl, rfl⟩
theorem stepM_ok {M : Met} {d : Deed} : (stepM M d).1.ok := by
  have two : ∀ (s : PySem.Str) (i : Int), (It.tup [.str s, .int i]).ok := by
    intro s i x hx
    simp only [List.mem_cons, List.not_mem_nil, or_false] at hx
    rcases hx with rfl | rfl <;> rfl
  by_cases h1 : (d.1 == ("next" : PySem.Str)) = true
  · rw [step_next h1]; exact two _ _
  · unfold stepM
    rw [if_neg h1]
    by_cases h2 : (d.1 == ("delete" : PySem.Str)) = true
    · rw [if_pos h2]; rfl
    · rw [if_neg h2]
      by_cases h3 : d.2 ∈ M.th
      · rw [if_pos h3]; rfl
      · rw [if_neg h3]; rfl
theorem metF_ok : ∀ {ds : List Deed} {M : Met}, ∀ i ∈ metF M ds, i.ok
  | [], _, i, hi => nomatch hi
  | d :: r, M, i, hi => by
    rcases List.mem_cons.mp (show i ∈ (stepM M d).1 :: metF (stepM M d).2 r from hi) with z | z
    · subst z; exact stepM_ok
    · exact metF_ok i z
theorem ints_its : ∀ {ks : List Int}, Its σ (ks.map .int) (ks.map fun k => .at (.int k))
  | [] => .nil
  | _ :: _ => .cons rfl ints_its
theorem ints_ok {ks : List Int} : ∀ i ∈ ks.map (fun k => It.at (.int k)), i.ok := fun i hi => by
  obtain ⟨k, _, rfl⟩ := List.mem_map.mp hi
  rfl
theorem eq_due {t u l d g e : Addr} {vs ws xs ys : List V} {is js : List It} (ht : σ t = some (.tup [.ref l, .ref d])) (st : P1.stat t = none) (hu : σ u = some (.tup [.ref g, .ref e])) (su : P1.stat u = none)
    (hl : σ l = some (.list true vs)) (sl : P1.stat l = none) (hg : σ g = some (.list true ws)) (sg : P1.stat g = none) (hd : σ d = some (.list true xs)) (sd : P1.stat d = none) (he : σ e = some (.list true ys)) (se : P1.stat e = none)
    (h : Its σ vs is) (h' : Its σ ws is) (ho : ∀ i ∈ is, i.ok) (k : Its σ xs js) (k' : Its σ ys js) (ko : ∀ i ∈ js, i.ok) : eqT (look (P1.gx n) σ) (.ref t) (.ref u) = some true := by
  unfold eqT
  dsimp only
  rw [look_dyn st, look_dyn su, ht, hu]
  dsimp only
  unfold eqV
  rw [look_dyn st, look_dyn su, ht, hu]
  dsimp only
  rw [if_pos (show [V.ref l, V.ref d].length = [V.ref g, V.ref e].length from rfl)]
  have e1 : eqV (look (P1.gx n) σ) 3 (.ref l) (.ref g) = some true := eqV_lists (m := 1) hl sl hg sg h h' ho
  have e2 : eqV (look (P1.gx n) σ) 3 (.ref d) (.ref e) = some true := eqV_lists (m := 1) hd sd he se k k' ko
  unfold allEq
  rw [e1]
  unfold allEq
  rw [e2]
  rfl
theorem bi_list {Γ : Gx} {a : Addr} {xs : List V} {q : Post} (ha : look Γ σ a = some (.tup xs)) (hl : xs.length ≤ 1000) (h : ∀ l, New Γ σ l → q (.ref l) (σ.set l (.list true xs))) : biW Γ .list (.ref a) q σ :=
  ⟨_, xs, ha, rfl, (fun _ _ => nofun), hl, h⟩
end Mine
end
section
open PySem
set_option Elab.async false
set_option maxRecDepth 100000
namespace Mine
variable {n : Nat} {σ σ' τ : Sto} {ε : Env0}
theorem comp_nums {f a : Addr} {N L : Nat} {q : List V → Sto → Prop} (hL : 1 < L) (hsa : P1.stat a = none) : ∀ (xs : List V) (ε : Env0) (acc : List V) (k : Nat) (τ : Sto), ε[1]? = some (some (.ref f)) → τ f = some (.taker k) → k + xs.length < 400 → τ a = some (.range N) →
    (∀ τ' (bs : List Int), Kp [f] τ τ' → τ' f = some (.taker (k + xs.length)) → bs.length = xs.length → q (acc ++ bs.map .int) τ') →
    goComp (P1.gx n) (wpE (P1.gx n) (.add (.int 1) (.take (.var 1) (.int 9)))) (wpC (P1.gx n) .tru) L a (.range N) q xs acc ε τ
  | [], ε, acc, k, τ, e1, hf, hk, ha, h => ⟨(look_dyn hsa).trans ha, by simpa using h τ [] Kp.refl hf rfl⟩
  | x :: xs, ε, acc, k, τ, e1, hf, hk, ha, h => by
    have e1' : (ε.set L (some x))[1]? = some (some (.ref f)) := by rw [List.getElem?_set_ne (by omega)]; exact e1
    refine ⟨(look_dyn hsa).trans ha, ?_⟩
    simp only [List.length_cons] at hk
    rw [c_tru, if_pos rfl, e_add, e_int]
    refine take_at e1' hf (by omega) (by decide) (by decide) fun r r0 r1 => ?_
    have k1 : Kp [f] τ (τ.set f (.taker (k + 1))) := Kp.put hf (by simp [keeps])
    refine comp_nums hL hsa xs _ _ (k + 1) _ e1' (Sto.set_self _ _ _) (by omega) (k1.range ha) fun τ' bs k2 h2 hl => ?_
    have := h τ' ((1 + r) :: bs) (k1.trans k2) (by rw [h2, List.length_cons]; congr 2; omega) (by simp [hl])
    rw [List.append_assoc]
    exact this
theorem pick4 {r : Int} (r0 : 0 ≤ r) (r1 : r < 4) : ∃ s : PySem.Str, [V.str "next", .str "delete", .str "next", .str "write"][r.toNat]? = some (.str s) := by
  have : r = 0 ∨ r = 1 ∨ r = 2 ∨ r = 3 := by omega
  rcases this with rfl | rfl | rfl | rfl <;> exact ⟨_, rfl⟩
@[reducible] noncomputable def deedElt : PE := .tup (.cons (.sub (.tup (.cons (.str "next") (.cons (.str "delete") (.cons (.str "next") (.cons (.str "write") .nil))))) (.take (.var 1) (.int 4))) (.cons (.add (.int 1) (.take (.var 1) (.int 9))) .nil))
theorem comp_deeds {f a : Addr} {N L : Nat} {q : List V → Sto → Prop} (hL : 1 < L) (hsa : P1.stat a = none) : ∀ (xs : List V) (ε : Env0) (acc : List V) (its : List It) (k : Nat) (τ : Sto), ε[1]? = some (some (.ref f)) → τ f = some (.taker k) → k + 2 * xs.length < 400 → τ a = some (.range N) → Its τ acc its →
    (∀ τ' vs (ds : List Deed), Kp [f] τ τ' → τ' f = some (.taker (k + 2 * xs.length)) → (∀ d ∈ ds, 0 < d.2) → ds.length = xs.length → Its τ' vs (its ++ ds.map deedIt) → q vs τ') →
    goComp (P1.gx n) (wpE (P1.gx n) deedElt) (wpC (P1.gx n) .tru) L a (.range N) q xs acc ε τ
  | [], ε, acc, its, k, τ, e1, hf, hk, ha, hi, h => ⟨(look_dyn hsa).trans ha, h τ acc [] Kp.refl hf (fun _ h => nomatch h) rfl (by simpa using hi)⟩
  | x :: xs, ε, acc, its, k, τ, e1, hf, hk, ha, hi, h => by
    have e1' : (ε.set L (some x))[1]? = some (some (.ref f)) := by rw [List.getElem?_set_ne (by omega)]; exact e1
    refine ⟨(look_dyn hsa).trans ha, ?_⟩
    simp only [List.length_cons] at hk
    rw [c_tru, if_pos rfl, e_tup, es_cons, e_sub, e_tup, es_cons, e_str, es_cons, e_str, es_cons, e_str, es_cons, e_str, es_nil]
    intro t ht
    have k1 : Kp [] τ (τ.set t (.tup [.str "next", .str "delete", .str "next", .str "write"])) := Kp.new ht.1
    have ht1 := Sto.set_self τ t (.tup [.str "next", .str "delete", .str "next", .str "write"])
    have hf1 := k1.taker hf
    have ha1 := k1.range ha
    have hi1 := hi.keep k1
    generalize τ.set t (.tup [.str "next", .str "delete", .str "next", .str "write"]) = τ1 at *
    refine take_at e1' hf1 (by omega) (by decide) (by decide) fun r r0 r1 => ?_
    have k2 : Kp [f] τ1 (τ1.set f (.taker (k + 1))) := Kp.put hf1 (by simp [keeps])
    have hf2 := Sto.set_self τ1 f (.taker (k + 1))
    have ht2 := k2.tup ht1
    have ha2 := k2.range ha1
    have hi2 := hi1.keep k2
    generalize τ1.set f (.taker (k + 1)) = τ2 at *
    obtain ⟨s, hs⟩ := pick4 r0 r1
    unfold subW
    dsimp only
    rw [look_dyn ht.2, ht2]
    refine ⟨r0, by unfold big; omega, .str s, hs, ?_⟩
    rw [es_cons, e_add, e_int]
    refine take_at e1' hf2 (by omega) (by decide) (by decide) fun r' r'0 r'1 => ?_
    have k3 : Kp [f] τ2 (τ2.set f (.taker (k + 1 + 1))) := Kp.put hf2 (by simp [keeps])
    have hf3 := Sto.set_self τ2 f (.taker (k + 1 + 1))
    have ha3 := k3.range ha2
    have hi3 := hi2.keep k3
    generalize τ2.set f (.taker (k + 1 + 1)) = τ3 at *
    dsimp only [addW]
    rw [es_nil]
    intro u hu
    have k4 : Kp [] τ3 (τ3.set u (.tup [.str s, .int (1 + r')])) := Kp.new hu.1
    refine comp_deeds hL hsa xs _ _ (its ++ [deedIt (s, 1 + r')]) (k + 2) _ e1' (k4.taker hf3) (by omega) (k4.range ha3) ((hi3.keep k4).snoc (ItAt.of (Sto.set_self _ _ _) hu.2)) fun τ' vs ds k5 h5 hp hl h6 => ?_
    refine h τ' vs ((s, 1 + r') :: ds) ((((k1.weak.trans k2).trans k3).trans k4.weak).trans k5) (by rw [h5, List.length_cons]; congr 2; omega) (fun d hd => ?_) (by simp [hl]) (by rw [List.append_assoc] at h6; exact h6)
    rcases List.mem_cons.mp hd with z | z
    · subst z; show 0 < 1 + r'; omega
    · exact hp d z
end Mine
end
section
open PySem
set_option Elab.async false
set_option maxRecDepth 100000
namespace Mine
variable {n : Nat} {σ σ' τ : Sto} {ε : Env0}
@[reducible] noncomputable def lawRest : PSs := .cons (.asg (.var 3) (.dict .nil)) (.cons (.for_ (.var 4) (.bi .range (.take (.var 1) (.int 8))) (turnW 3 9 9 3)) (.cons (.ite (.not (.val (.fn 228 (.cons (.var 3) (.cons (.comp (.add (.int 1) (.take (.var 1) (.int 9))) 9 (.bi .range (.take (.var 1) (.int 7))) (.tru)) .nil))))) (.cons (.ret (.bool false)) .nil) (.nil)) (.cons (.asg (.var 5) (.comp deedElt 9 (.bi .range (.take (.var 1) (.int 15))) (.tru))) (.cons (.asg (.var 6) (.bi .dict (.var 3))) (.cons (.asg (.tup (.cons (.var 7) (.cons (.var 8) .nil))) (.fn 223 (.cons (.var 3) (.cons (.var 5) .nil)))) (.cons (.ret (.and (.cmp .eq (.fn 218 (.cons (.var 6) (.cons (.var 5) .nil))) (.var 7)) (.cmp .eq (.bi .sorted (.var 6)) (.var 8)))) .nil))))))
theorem wds_pos : ∀ d ∈ wds, (d.1 == ("next" : PySem.Str)) = false → 0 < d.2 := by decide +kernel
theorem law_rest {f : Addr} {e0 e2 : Option V} (hf : σ f = some (.taker 0)) : wpSs (P1.gx (n + 5)) lawRest (fun fl _ _ => fl = .ret (.bool true)) [e0, some (.ref f), e2, none, none, none, none, none, none] σ := by
  rw [ss_cons_, s_asg, e_dict, ds_nil]
  intro R hR epR
  show wpT _ _ _ _ _ (σ.set R (.dict [] epR))
  have k1 : Kp [] σ (σ.set R (.dict [] epR)) := Kp.new hR.1
  have hR1 := Sto.set_self σ R (.dict [] epR)
  have hf1 := k1.taker hf
  generalize σ.set R (.dict [] epR) = σ1 at *
  rw [t_var]
  refine ⟨by simp, ?_⟩
  dsimp only
  have nRf : R ≠ f := fun e => by rw [e, hf1] at hR1; cases hR1
  rw [ss_cons_]
  refine rows_stmt (D := 3) (T := 4) (L := 9) (by decide) (by decide) (by decide) (by decide) (by decide) (by decide) (by decide) (by decide) (by decide) (by decide) rfl rfl rfl hf1 (by decide) hR1 fun ε1 σ2 es ep2 j2 l2 i2 k2 hf2 hj2 hR2 g oc n2 => ?_
  dsimp only
  have h1 : ε1[1]? = some (some (.ref f)) := (i2 1 (by decide)).trans rfl
  have h3 : ε1[3]? = some (some (.ref R)) := (i2 3 (by decide)).trans rfl
  obtain ⟨e0, e1', e2, e3', e4, e5, e6, e7, e8, rfl⟩ := len9 l2
  cases h1; cases h3
  clear i2 l2
  -- the numbers
  rw [ss_cons_, s_ite, c_not, c_val, e_fnW, es_cons, e_var]
  refine ⟨.ref R, rfl, ?_⟩
  rw [es_cons, e_comp, e_bi]
  refine take_at rfl hf2 (by omega) (by decide) (by decide) fun r r0 r1 => ?_
  have k3 : Kp [f] σ2 (σ2.set f (.taker (j2 + 1))) := Kp.put hf2 (by simp [keeps])
  have hf3 := Sto.set_self σ2 f (.taker (j2 + 1))
  have hR3 := k3.dict hR2 (by simpa using nRf)
  generalize σ2.set f (.taker (j2 + 1)) = σ3 at *
  refine ⟨r0, by omega, fun l nl => ?_⟩
  have k4 : Kp [] σ3 (σ3.set l (.range r.toNat)) := Kp.new nl.1
  have hl4 : (σ3.set l (.range r.toNat)) l = some (.range r.toNat) := Sto.set_self _ _ _
  have hf4 := k4.taker hf3
  have hR4 := k4.dict hR3
  generalize σ3.set l (.range r.toNat) = σ4 at *
  have hlen : ((List.range r.toNat).map fun (i : Nat) => V.int i).length ≤ 6 := by rw [List.length_map, List.length_range]; omega
  refine ⟨l, _, _, rfl, (look_dyn nl.2).trans hl4, rfl, Nat.le_trans hlen (by decide), ?_⟩
  refine comp_nums (L := 9) (by decide) nl.2 _ _ [] (j2 + 1) σ4 rfl hf4 (by omega) hl4 fun σ5 N k5 hf5 hN => ?_
  have hR5 := k5.dict hR4 (by simpa using nRf)
  generalize hJ : j2 + 1 + ((List.range r.toNat).map fun (i : Nat) => V.int i).length = J at *
  intro o ho
  have k6 : Kp [] σ5 (σ5.set o (.list true (N.map .int))) := Kp.new ho.1
  have ho6 := Sto.set_self σ5 o (.list true (N.map .int))
  have hR6 := k6.dict hR5
  have hf6 := k6.taker hf5
  show wpEs _ _ _ _ (σ5.set o (.list true (N.map .int)))
  generalize σ5.set o (.list true (N.map .int)) = σ6 at *
  rw [es_nil]
  refine sp_right (n := n) g oc hR6 hR.2 ho6 ho.2 (by omega) fun σ7 k7 => ⟨true, rfl, ?_⟩
  have hR7 := k7.dict hR6
  have hf7 := k7.taker hf6
  rw [if_neg (by decide), ss_nil_]
  dsimp only
  -- the deeds
  rw [ss_cons_, s_asg, e_comp, e_bi]
  refine take_at rfl hf7 (by omega) (by decide) (by decide) fun r r0 r1 => ?_
  have k8 : Kp [f] σ7 (σ7.set f (.taker (J + 1))) := Kp.put hf7 (by simp [keeps])
  have hf8 := Sto.set_self σ7 f (.taker (J + 1))
  have hR8 := k8.dict hR7 (by simpa using nRf)
  generalize σ7.set f (.taker (J + 1)) = σ8 at *
  refine ⟨r0, by omega, fun l nl => ?_⟩
  have k9 : Kp [] σ8 (σ8.set l (.range r.toNat)) := Kp.new nl.1
  have hl9 : (σ8.set l (.range r.toNat)) l = some (.range r.toNat) := Sto.set_self _ _ _
  have hf9 := k9.taker hf8
  have hR9 := k9.dict hR8
  generalize σ8.set l (.range r.toNat) = σ9 at *
  have hlen' : ((List.range r.toNat).map fun (i : Nat) => V.int i).length ≤ 14 := by rw [List.length_map, List.length_range]; omega
  refine ⟨l, _, _, rfl, (look_dyn nl.2).trans hl9, rfl, Nat.le_trans hlen' (by decide), ?_⟩
  refine comp_deeds (L := 9) (by decide) nl.2 _ _ [] [] (J + 1) σ9 rfl hf9 (by omega) hl9 .nil fun σa vs ds ka hfa hp hds itsa => ?_
  have hRa := ka.dict hR9 (by simpa using nRf)
  rw [List.nil_append] at itsa
  intro D hD
  have kb : Kp [] σa (σa.set D (.list true vs)) := Kp.new hD.1
  have hDb := Sto.set_self σa D (.list true vs)
  have hRb := kb.dict hRa
  have itsb := itsa.keep kb
  show wpT _ _ _ _ _ (σa.set D (.list true vs))
  generalize σa.set D (.list true vs) = σb at *
  rw [t_var]
  refine ⟨by simp, ?_⟩
  dsimp only
  -- content
  rw [ss_cons_, s_asg, e_bi, e_var]
  refine ⟨.ref R, rfl, bi_dict ((look_dyn hR.2).trans hRb) (by omega) fun c hc epc => ?_⟩
  have kc : Kp [] σb (σb.set c (.dict es epc)) := Kp.new hc.1
  have hcc : (σb.set c (.dict es epc)) c = some (.dict es epc) := Sto.set_self _ _ _
  have hRc := kc.dict hRb
  have hDc := kc.list hDb
  have itsc := itsb.keep kc
  have Dc : D ≠ c := fun z => by have := hc.1; rw [← z, hDb] at this; cases this
  generalize σb.set c (.dict es epc) = σc at *
  rw [t_var]
  refine ⟨by simp, ?_⟩
  dsimp only
  have gd : Gd es 8 := ⟨g.nodup, g.pos, n2, oc⟩
  have hdl : ds.length ≤ 14 := by omega
  -- due, there
  rw [ss_cons_, s_asg, e_fnW, es_cons, e_var]
  refine ⟨.ref R, rfl, ?_⟩
  rw [es_cons, e_var]
  refine ⟨.ref D, rfl, ?_⟩
  rw [es_nil]
  refine sp_metdue (n := n + 4) gd (by omega) hRc hR.2 (show itemsOf (.list true vs) = some vs from rfl) itsc (fun τ k => (look_dyn hD.2).trans (k.list hDc)) fun σd t F T ws ht st hF sF itF hT sT kd => ?_
  have hcd := kd.dict hcc
  have hDd := kd.list hDc
  have itd := itsc.keep kd
  rw [t_tup]
  refine ⟨t, _, rfl, (look_dyn st).trans ht, rfl, ?_⟩
  refine ⟨_, _, rfl, by simp, _, _, rfl, by simp, rfl, ?_⟩
  dsimp only
  show wpSs (P1.gx (n + 5)) _ _ [e0, some (.ref f), e2, some (.ref R), e4, some (.ref D), some (.ref c), some (.ref F), some (.ref T)] σd
  have Fc : F ≠ c := fun z => by rw [z, hcd] at hF; cases hF
  have Tc : T ≠ c := fun z => by rw [z, hcd] at hT; cases hT
  -- met
  rw [ss_cons_, s_ret, e_and, e_cmp, e_fnW, es_cons, e_var]
  refine ⟨.ref c, rfl, ?_⟩
  rw [es_cons, e_var]
  refine ⟨.ref D, rfl, ?_⟩
  rw [es_nil]
  refine sp_met (n := n + 1) gd (by omega) (fun d hd _ => hp d hd) hcd hc.2 (show itemsOf (.list true vs) = some vs from rfl) itd (fun τ k => (look_dyn hD.2).trans (k.list hDd (by simpa using Dc))) fun σe m ms G es' epe hm sm itm hce fs ke => ?_
  have hFe := ke.list hF (by simpa using Fc)
  have hTe := ke.list hT (by simpa using Tc)
  rw [e_var]
  refine ⟨.ref F, rfl, true, eq_lists hm sm hFe sF itm (itF.keep ke) metF_ok, true, rfl, ?_⟩
  rw [if_pos rfl, e_cmp, e_bi, e_var]
  have few := fs.gd.few
  refine ⟨.ref c, rfl, _, _, _, (look_dyn hc.2).trans hce, rfl, (fun _ => nofun), (fun _ => nofun), keys_ints es', by rw [List.length_map]; omega, fun s hs => ?_⟩
  have kf : Kp [] σe (σe.set s (.list true ((sortI (es'.map (·.1))).map .int))) := Kp.new hs.1
  have hsf : (σe.set s (.list true ((sortI (es'.map (·.1))).map .int))) s = some (.list true ((sortI (metE (met0 es) ds).th).map .int)) := by rw [← fs.srt]; exact Sto.set_self _ _ _
  have hTf := kf.list hTe
  generalize σe.set s (.list true ((sortI (es'.map (·.1))).map .int)) = σf at *
  dsimp only
  rw [e_var]
  exact ⟨.ref T, rfl, true, eq_lists hsf hs.2 hTf sT ints_its ints_its ints_ok, rfl⟩
theorem law_pure {f : Addr} (hf : σ f = some (.taker 0)) : wpSs (P1.gx (n + 5)) b_law (fun fl _ _ => fl = .ret (.bool true)) [none, some (.ref f), none, none, none, none, none, none, none] σ := by
  rw [ss_cons_, s_asg, e_dict, ds_cons, e_int]
  refine ⟨2, rfl, ?_⟩
  rw [e_bytes, ds_cons, e_int]
  refine ⟨3, rfl, ?_⟩
  rw [e_bytes, ds_cons, e_int]
  refine ⟨7, rfl, ?_⟩
  rw [e_bytes, ds_nil]
  intro r hr epr
  show wpT _ _ _ _ _ (σ.set r (.dict wes epr))
  have k1 : Kp [] σ (σ.set r (.dict wes epr)) := Kp.new hr.1
  have hr1 := Sto.set_self σ r (.dict wes epr)
  have hf1 := k1.taker hf
  generalize σ.set r (.dict wes epr) = σ1 at *
  rw [t_var]
  refine ⟨by simp, ?_⟩
  dsimp only
  rw [ss_cons_, s_ite, c_or, c_not, c_val, e_fnW, es_cons, e_var]
  refine ⟨.ref r, rfl, ?_⟩
  rw [es_cons, e_list, es_cons, e_int, es_cons, e_int, es_cons, e_int, es_cons, e_int, es_nil]
  intro o ho
  have k3 : Kp [] σ1 (σ1.set o (.list true [.int 7, .int 1, .int 2, .int 7])) := Kp.new ho.1
  have ho3 := Sto.set_self σ1 o (.list true [.int 7, .int 1, .int 2, .int 7])
  have hr3 := k3.dict hr1
  have hf3 := k3.taker hf1
  generalize σ1.set o (.list true [.int 7, .int 1, .int 2, .int 7]) = σ3 at *
  rw [es_nil]
  refine sp_right (n := n) (N := [7, 1, 2, 7]) wes_good wes_oct hr3 hr.2 ho3 ho.2 (by decide) fun σ4 k4 => ⟨true, rfl, ?_⟩
  have hr4 := k4.dict hr3
  have hf4 := k4.taker hf3
  rw [if_neg (by decide), c_cmp, e_fnW, es_cons, e_bi, e_var]
  have gd : Gd wes 3 := ⟨wes_good.nodup, wes_good.pos, by decide, wes_oct⟩
  refine ⟨.ref r, rfl, bi_dict ((look_dyn hr.2).trans hr4) (by decide) fun c hc epc => ?_⟩
  have k5 : Kp [] σ4 (σ4.set c (.dict wes epc)) := Kp.new hc.1
  have hc5 : (σ4.set c (.dict wes epc)) c = some (.dict wes epc) := Sto.set_self _ _ _
  have hr5 := k5.dict hr4
  have hf5 := k5.taker hf4
  have rc : r ≠ c := fun z => by have := hc.1; rw [← z, hr4] at this; cases this
  have fc : f ≠ c := fun z => by have := hc.1; rw [← z, hf4] at this; cases this
  generalize σ4.set c (.dict wes epc) = σ5 at *
  rw [es_cons, e_glob, es_nil]
  refine sp_met (n := n + 1) (ds := wds) (src := .tup wrefs) gd (by decide) wds_pos hc5 hc.2 rfl wds_its (fun τ _ => look_stat rfl) fun σ6 l vs F es' ep' hl sl itl _ _ k6 => ?_
  have hr6 := k6.dict hr5 (by simpa using rc)
  have hf6 := k6.taker hf5 (by simpa using fc)
  rw [wds_told.1] at itl
  rw [e_bi, e_glob]
  refine bi_list (xs := trefs) (look_stat rfl) (by decide) fun g hg => ?_
  have k7 : Kp [] σ6 (σ6.set g (.list true trefs)) := Kp.new hg.1
  have hg7 := Sto.set_self σ6 g (.list true trefs)
  have hl7 := k7.list hl
  have hr7 := k7.dict hr6
  have hf7 := k7.taker hf6
  have itl7 := itl.keep k7
  generalize σ6.set g (.list true trefs) = σ7 at *
  refine ⟨true, eq_lists hl7 sl hg7 hg.2 itl7 told_its (fun i hi => metF_ok (ds := wds) (M := met0 wes) i (by rw [wds_told.1]; exact hi)), ?_⟩
  dsimp only
  rw [if_neg (by decide), ss_nil_]
  dsimp only
  rw [ss_cons_, s_ite, c_cmp, e_fnW, es_cons, e_var]
  refine ⟨.ref r, rfl, ?_⟩
  rw [es_cons, e_glob, es_nil]
  refine sp_metdue (n := n + 4) (ds := wds) (src := .tup wrefs) gd (by decide) hr7 hr.2 rfl wds_its (fun τ _ => look_stat rfl) fun σ8 t F T ws ht st hF sF itF hT sT k8 => ?_
  have hf8 := k8.taker hf7
  rw [wds_told.1] at itF
  rw [wds_told.2, sort_is (ks := [3, 2, 6]) (js := [2, 3, 6]) (by decide) (by decide) (fun k => by simp; omega)] at hT
  rw [e_tup, es_cons, e_bi, e_glob]
  refine bi_list (xs := trefs) (look_stat rfl) (by decide) fun g hg => ?_
  have k9 : Kp [] σ8 (σ8.set g (.list true trefs)) := Kp.new hg.1
  have hg9 := Sto.set_self σ8 g (.list true trefs)
  have hf9 := k9.taker hf8
  have ht9 := k9.tup ht
  have hF9 := k9.list hF
  have hT9 := k9.list hT
  have itF9 := itF.keep k9
  generalize σ8.set g (.list true trefs) = σ9 at *
  rw [es_cons, e_list, es_cons, e_int, es_cons, e_int, es_cons, e_int, es_nil]
  intro e he
  have ka : Kp [] σ9 (σ9.set e (.list true [.int 2, .int 3, .int 6])) := Kp.new he.1
  have hea := Sto.set_self σ9 e (.list true [.int 2, .int 3, .int 6])
  have hga := ka.list hg9
  have hfa := ka.taker hf9
  have hta := ka.tup ht9
  have hFa := ka.list hF9
  have hTa := ka.list hT9
  have itFa := itF9.keep ka
  generalize σ9.set e (.list true [.int 2, .int 3, .int 6]) = σa at *
  rw [es_nil]
  intro u hu
  have kb : Kp [] σa (σa.set u (.tup [.ref g, .ref e])) := Kp.new hu.1
  have hub := Sto.set_self σa u (.tup [.ref g, .ref e])
  have heb := kb.list hea
  have hgb := kb.list hga
  have hfb := kb.taker hfa
  have htb := kb.tup hta
  have hFb := kb.list hFa
  have hTb := kb.list hTa
  have itFb := itFa.keep kb
  generalize σa.set u (.tup [.ref g, .ref e]) = σb at *
  refine ⟨true, eq_due htb st hub hu.2 hFb sF hgb hg.2 hTb sT heb he.2 itFb told_its (fun i hi => metF_ok (ds := wds) (M := met0 wes) i (by rw [wds_told.1]; exact hi)) ints_its (ints_its (ks := [2, 3, 6])) ints_ok, ?_⟩
  dsimp only
  rw [if_neg (by decide), ss_nil_]
  exact law_rest hfb
end Mine
end
section
open PySem PySem.W PyProof.Rows PySem.SeqAt
set_option Elab.async false
set_option maxRecDepth 100000
set_option maxHeartbeats 4000000
namespace Mine
theorem fill1 : PySem.Challenge.rw_pb0237_04 = PySem.Challenge.rw_pb0237_04 ∧ K4 = K4 := by
  k_fill
  exact ⟨rfl, rfl⟩
@[reducible] noncomputable def l1names : List PySem.Str := ["content", "mode", "access", "most", "place", "is_behind", "is_valid", "last", "number"]
@[reducible] noncomputable def kx1 (w : World) (p : Program) (loose : List PySem.Str) (mean : ExcName → Option Value) (mg mb : PySem.Str → Option Value) (base : Heap) (tk : Heap → Addr → Nat → List Addr → Prop) : Kx :=
  ⟨PySem.Challenge.pw_pb0237_04, w, K4 w.params, p, loose, mean, mg, mb, base, l1names, tk⟩
section
variable {w : World} {p : Program} {loose : List PySem.Str} {mean : ExcName → Option Value} {mg mb : PySem.Str → Option Value} {base : Heap} {tk : Heap → Addr → Nat → List Addr → Prop} {P : Px}
theorem hg_BY_ORDER : nsIn (K4 w.params) mainGlobals "BY_ORDER" = some (some (.ref 63)) := by k_is
theorem hg__law_DEEDS : nsIn (K4 w.params) mainGlobals "_law_DEEDS" = some (some (.ref 185)) := by k_is
theorem hg__law_TOLD : nsIn (K4 w.params) mainGlobals "_law_TOLD" = some (some (.ref 192)) := by k_is
theorem hg_least_from : nsIn (K4 w.params) mainGlobals "least_from" = some (some (.ref 70)) := by k_is
theorem hg__law_swept : nsIn (K4 w.params) mainGlobals "_law_swept" = some (some (.ref 206)) := by k_is
theorem hg__law_emptied : nsIn (K4 w.params) mainGlobals "_law_emptied" = some (some (.ref 211)) := by k_is
theorem hg__law_met : nsIn (K4 w.params) mainGlobals "_law_met" = some (some (.ref 218)) := by k_is
theorem hg__law_met_due : nsIn (K4 w.params) mainGlobals "_law_met_due" = some (some (.ref 223)) := by k_is
theorem hg__law_right : nsIn (K4 w.params) mainGlobals "_law_right" = some (some (.ref 228)) := by k_is
theorem hg_RelFile : nsIn (K4 w.params) mainGlobals "RelFile" = some (some (.ref 166)) := by k_is
theorem hb_sorted : nsIn (K4 w.params) mainGlobals "sorted" = some none := by k_is
theorem hb_max : nsIn (K4 w.params) mainGlobals "max" = some none := by k_is
theorem hb_dict : nsIn (K4 w.params) mainGlobals "dict" = some none := by k_is
theorem hb_bytes : nsIn (K4 w.params) mainGlobals "bytes" = some none := by k_is
theorem hb_range : nsIn (K4 w.params) mainGlobals "range" = some none := by k_is
theorem hb_len : nsIn (K4 w.params) mainGlobals "len" = some none := by k_is
theorem hb_list : nsIn (K4 w.params) mainGlobals "list" = some none := by k_is
theorem hb_enumerate : nsIn (K4 w.params) mainGlobals "enumerate" = some none := by k_is
theorem hk_least_from : keepIn (K4 w.params) (.ref 70) = true := by k_is
theorem hk__law_swept : keepIn (K4 w.params) (.ref 206) = true := by k_is
theorem hk__law_emptied : keepIn (K4 w.params) (.ref 211) = true := by k_is
theorem hk__law_met : keepIn (K4 w.params) (.ref 218) = true := by k_is
theorem hk__law_met_due : keepIn (K4 w.params) (.ref 223) = true := by k_is
theorem hk__law_right : keepIn (K4 w.params) (.ref 228) = true := by k_is
theorem hk_RelFile : keepIn (K4 w.params) (.ref 166) = true := by k_is
theorem hk_need : keepIn (K4 w.params) (.ref 92) = true := by k_is
theorem hk_failed : keepIn (K4 w.params) (.ref 99) = true := by k_is
theorem hk_found : keepIn (K4 w.params) (.ref 106) = true := by k_is
theorem hk_read_next : keepIn (K4 w.params) (.ref 113) = true := by k_is
theorem hk_write : keepIn (K4 w.params) (.ref 135) = true := by k_is
theorem hk_chosen : keepIn (K4 w.params) (.ref 142) = true := by k_is
theorem hk_rewrite : keepIn (K4 w.params) (.ref 150) = true := by k_is
theorem hk_delete : keepIn (K4 w.params) (.ref 158) = true := by k_is
theorem ok_least_from (ht : P.tab 70 = some (.fn b_least_from 3 2 [])) : FnOk (kx1 w p loose mean mg mb base tk) P l1meths 70 := by
  refine' fn_enter (κ := (kx1 w p loose mean mg mb base tk)) (vs := [("content", .loc), ("low", .loc), ("number", .loc)]) (dvals := []) ht ?ho ?hdata ?hcd ?hbody ?hclo ?hgl ?hbu ?hd ?hnp ?hbind ?hok ?hco ?hgen ?hk ?h
  case ho => show (K4 w.params).lookup _ = _; k_is
  case hdata => rfl
  case hcd => show codeIn (K4 w.params) _ _ = true; k_is
  case hbody => rfl
  case hclo => rfl
  case hgl => rfl
  case hbu => rfl
  case hd => exact .nil
  case hnp => decide
  case hbind =>
    intro s args X h1 h2
    obtain ⟨a0, a1, rfl⟩ := len2 (Nat.le_antisymm h1 h2)
    exact BindsTo.of_eq rfl
  case hok => decide +kernel
  case hco => rfl
  case hgen => rfl
  case hk => rfl
  intro n G L vars fo
  exact (sss_cons (ss_for G fo (fun _ => rfl) (se_bi (f := .sorted) G fo.eo (by rfl) hb_sorted (by rfl) (se_var fo.eo (by rfl) (by rfl))) (tt_var G fo (by rfl)) (sss_cons (ss_if (sc_cmp G (by rfl) (se_var fo.eo (by rfl) (by rfl)) (se_var fo.eo (by rfl) (by rfl))) (sss_cons (ss_ret (se_var fo.eo (by rfl) (by rfl))) sss_nil) sss_nil) sss_nil)) (sss_cons (ss_ret se_int) sss_nil))
theorem ok_init (ht : P.tab 85 = some (.fn b_init 5 5 [.int 0])) : FnOk (kx1 w p loose mean mg mb base tk) P l1meths 85 := by
  refine' fn_enter (κ := (kx1 w p loose mean mg mb base tk)) (vs := [("self", .loc), ("content", .loc), ("mode", .loc), ("access", .loc), ("most", .loc)]) (dvals := [.int 0 278]) ht ?ho ?hdata ?hcd ?hbody ?hclo ?hgl ?hbu ?hd ?hnp ?hbind ?hok ?hco ?hgen ?hk ?h
  case ho => show (K4 w.params).lookup _ = _; k_is
  case hdata => rfl
  case hcd => show codeIn (K4 w.params) _ _ = true; k_is
  case hbody => rfl
  case hclo => rfl
  case hgl => rfl
  case hbu => rfl
  case hd => exact .cons (.int _ _) .nil
  case hnp => decide
  case hbind =>
    intro s args X h1 h2
    have h3 : args.length = 5 ∨ args.length = 4 := by have h2 : 5 ≤ args.length + 1 := h2; omega
    rcases h3 with h3 | h3
    · obtain ⟨a0, a1, a2, a3, a4, rfl⟩ := len5 h3
      have X : (K4 w.params).In s.heap := X
      exact binds_K X rfl (by k_is) rfl rfl rfl
    · obtain ⟨a0, a1, a2, a3, rfl⟩ := len4 h3
      have X : (K4 w.params).In s.heap := X
      exact binds_K X rfl (by k_is) rfl rfl rfl
  case hok => decide +kernel
  case hco => rfl
  case hgen => rfl
  case hk => rfl
  intro n G L vars fo
  exact (sss_cons (ss_attr G (by rfl) (by rfl) (se_var fo.eo (by rfl) (by rfl)) (se_var fo.eo (by rfl) (by rfl))) (sss_cons (ss_attr G (by rfl) (by rfl) (se_var fo.eo (by rfl) (by rfl)) (se_var fo.eo (by rfl) (by rfl))) (sss_cons (ss_attr G (by rfl) (by rfl) (se_var fo.eo (by rfl) (by rfl)) (se_var fo.eo (by rfl) (by rfl))) (sss_cons (ss_attr G (by rfl) (by rfl) (se_var fo.eo (by rfl) (by rfl)) (se_var fo.eo (by rfl) (by rfl))) (sss_cons (ss_attr G (by rfl) (by rfl) se_int (se_var fo.eo (by rfl) (by rfl))) (sss_cons (ss_attr G (by rfl) (by rfl) se_bool (se_var fo.eo (by rfl) (by rfl))) (sss_cons (ss_attr G (by rfl) (by rfl) se_bool (se_var fo.eo (by rfl) (by rfl))) (sss_cons (ss_attr G (by rfl) (by rfl) se_int (se_var fo.eo (by rfl) (by rfl))) (sss_cons (ss_if (sc_cmp G (by rfl) (se_var fo.eo (by rfl) (by rfl)) se_str) (sss_cons (ss_expr fo (by rfl) (se_meth G (by rfl) (by rfl) (by rfl) (by rfl) (i := 0) (by rfl) hk_need (se_var fo.eo (by rfl) (by rfl)) (ses_cons (star_cons (by rfl) _) (se_tup G (by decide) (ses_cons (star_cons (by rfl) _) se_str ses_nil)) (ses_cons (star_cons (by rfl) _) se_str ses_nil)))) sss_nil) sss_nil) (sss_cons (ss_if (sc_cmp G (by rfl) (se_var fo.eo (by rfl) (by rfl)) se_str) (sss_cons (ss_expr fo (by rfl) (se_bm (f := .clear) G (by rfl) (by rfl) (by rfl) (by rfl) (se_var fo.eo (by rfl) (by rfl)) ses_nil)) sss_nil) sss_nil) (sss_cons (ss_attr G (by rfl) (by rfl) (se_ite (sc_bool (sa_and (sc_cmp G (by rfl) (se_var fo.eo (by rfl) (by rfl)) se_str) (sa_and_one (sc_val G (fun _ => rfl) (se_var fo.eo (by rfl) (by rfl)))))) (se_bi (f := .max) G fo.eo (by rfl) hb_max (by rfl) (se_var fo.eo (by rfl) (by rfl))) se_int) (se_var fo.eo (by rfl) (by rfl))) sss_nil)))))))))))
theorem ok_need (ht : P.tab 92 = some (.fn b_need 3 3 [])) : FnOk (kx1 w p loose mean mg mb base tk) P l1meths 92 := by
  refine' fn_enter (κ := (kx1 w p loose mean mg mb base tk)) (vs := [("self", .loc), ("some", .loc), ("what", .loc)]) (dvals := []) ht ?ho ?hdata ?hcd ?hbody ?hclo ?hgl ?hbu ?hd ?hnp ?hbind ?hok ?hco ?hgen ?hk ?h
  case ho => show (K4 w.params).lookup _ = _; k_is
  case hdata => rfl
  case hcd => show codeIn (K4 w.params) _ _ = true; k_is
  case hbody => rfl
  case hclo => rfl
  case hgl => rfl
  case hbu => rfl
  case hd => exact .nil
  case hnp => decide
  case hbind =>
    intro s args X h1 h2
    obtain ⟨a0, a1, a2, rfl⟩ := len3 (Nat.le_antisymm h1 h2)
    exact BindsTo.of_eq rfl
  case hok => decide +kernel
  case hco => rfl
  case hgen => rfl
  case hk => rfl
  intro n G L vars fo
  exact (sss_cons (ss_if (sc_cmp G (by rfl) (se_attr G (by rfl) (by rfl) (se_var fo.eo (by rfl) (by rfl))) (se_var fo.eo (by rfl) (by rfl))) (sss_cons ss_fail sss_nil) sss_nil) sss_nil)
theorem ok_failed (ht : P.tab 99 = some (.fn b_failed 2 2 [])) : FnOk (kx1 w p loose mean mg mb base tk) P l1meths 99 := by
  refine' fn_enter (κ := (kx1 w p loose mean mg mb base tk)) (vs := [("self", .loc), ("status", .loc)]) (dvals := []) ht ?ho ?hdata ?hcd ?hbody ?hclo ?hgl ?hbu ?hd ?hnp ?hbind ?hok ?hco ?hgen ?hk ?h
  case ho => show (K4 w.params).lookup _ = _; k_is
  case hdata => rfl
  case hcd => show codeIn (K4 w.params) _ _ = true; k_is
  case hbody => rfl
  case hclo => rfl
  case hgl => rfl
  case hbu => rfl
  case hd => exact .nil
  case hnp => decide
  case hbind =>
    intro s args X h1 h2
    obtain ⟨a0, a1, rfl⟩ := len2 (Nat.le_antisymm h1 h2)
    exact BindsTo.of_eq rfl
  case hok => decide +kernel
  case hco => rfl
  case hgen => rfl
  case hk => rfl
  intro n G L vars fo
  exact (sss_cons (ss_attr G (by rfl) (by rfl) se_bool (se_var fo.eo (by rfl) (by rfl))) (sss_cons (ss_ret (se_tup G (by decide) (ses_cons (star_cons (by rfl) _) (se_var fo.eo (by rfl) (by rfl)) (ses_cons (star_cons (by rfl) _) se_bytes ses_nil)))) sss_nil))
theorem ok_found (ht : P.tab 106 = some (.fn b_found 2 2 [])) : FnOk (kx1 w p loose mean mg mb base tk) P l1meths 106 := by
  refine' fn_enter (κ := (kx1 w p loose mean mg mb base tk)) (vs := [("self", .loc), ("number", .loc)]) (dvals := []) ht ?ho ?hdata ?hcd ?hbody ?hclo ?hgl ?hbu ?hd ?hnp ?hbind ?hok ?hco ?hgen ?hk ?h
  case ho => show (K4 w.params).lookup _ = _; k_is
  case hdata => rfl
  case hcd => show codeIn (K4 w.params) _ _ = true; k_is
  case hbody => rfl
  case hclo => rfl
  case hgl => rfl
  case hbu => rfl
  case hd => exact .nil
  case hnp => decide
  case hbind =>
    intro s args X h1 h2
    obtain ⟨a0, a1, rfl⟩ := len2 (Nat.le_antisymm h1 h2)
    exact BindsTo.of_eq rfl
  case hok => decide +kernel
  case hco => rfl
  case hgen => rfl
  case hk => rfl
  intro n G L vars fo
  exact (sss_cons (ss_attr G (by rfl) (by rfl) (se_var fo.eo (by rfl) (by rfl)) (se_var fo.eo (by rfl) (by rfl))) (sss_cons (ss_attr G (by rfl) (by rfl) se_bool (se_var fo.eo (by rfl) (by rfl))) (sss_cons (ss_attr G (by rfl) (by rfl) se_bool (se_var fo.eo (by rfl) (by rfl))) (sss_cons (ss_attr G (by rfl) (by rfl) (se_var fo.eo (by rfl) (by rfl)) (se_var fo.eo (by rfl) (by rfl))) (sss_cons (ss_attr G (by rfl) (by rfl) (se_var fo.eo (by rfl) (by rfl)) (se_var fo.eo (by rfl) (by rfl))) (sss_cons (ss_ret (se_tup G (by decide) (ses_cons (star_cons (by rfl) _) se_str (ses_cons (star_cons (by rfl) _) (se_sub G (fun _ _ => rfl) (se_attr G (by rfl) (by rfl) (se_var fo.eo (by rfl) (by rfl))) (se_var fo.eo (by rfl) (by rfl))) ses_nil)))) sss_nil))))))
theorem ok_read_next (ht : P.tab 113 = some (.fn b_read_next 2 1 [])) : FnOk (kx1 w p loose mean mg mb base tk) P l1meths 113 := by
  refine' fn_enter (κ := (kx1 w p loose mean mg mb base tk)) (vs := [("self", .loc), ("number", .loc)]) (dvals := []) ht ?ho ?hdata ?hcd ?hbody ?hclo ?hgl ?hbu ?hd ?hnp ?hbind ?hok ?hco ?hgen ?hk ?h
  case ho => show (K4 w.params).lookup _ = _; k_is
  case hdata => rfl
  case hcd => show codeIn (K4 w.params) _ _ = true; k_is
  case hbody => rfl
  case hclo => rfl
  case hgl => rfl
  case hbu => rfl
  case hd => exact .nil
  case hnp => decide
  case hbind =>
    intro s args X h1 h2
    obtain ⟨a0, rfl⟩ := len1 (Nat.le_antisymm h1 h2)
    exact BindsTo.of_eq rfl
  case hok => decide +kernel
  case hco => rfl
  case hgen => rfl
  case hk => rfl
  intro n G L vars fo
  exact (sss_cons (ss_expr fo (by rfl) (se_meth G (by rfl) (by rfl) (by rfl) (by rfl) (i := 0) (by rfl) hk_need (se_var fo.eo (by rfl) (by rfl)) (ses_cons (star_cons (by rfl) _) (se_glob G fo.eo (by rfl) hg_BY_ORDER (by rfl)) (ses_cons (star_cons (by rfl) _) se_str ses_nil)))) (sss_cons (ss_attr G (by rfl) (by rfl) se_int (se_var fo.eo (by rfl) (by rfl))) (sss_cons (ss_if (sc_cmp G (by rfl) (se_attr G (by rfl) (by rfl) (se_var fo.eo (by rfl) (by rfl))) (se_tup G (by decide) (ses_cons (star_cons (by rfl) _) se_str (ses_cons (star_cons (by rfl) _) se_str ses_nil)))) (sss_cons (ss_ret (se_tup G (by decide) (ses_cons (star_cons (by rfl) _) se_str (ses_cons (star_cons (by rfl) _) se_bytes ses_nil)))) sss_nil) sss_nil) (sss_cons (ss_if (sc_not (sc_val G (fun _ => rfl) (se_attr G (by rfl) (by rfl) (se_var fo.eo (by rfl) (by rfl))))) (sss_cons (ss_ret (se_tup G (by decide) (ses_cons (star_cons (by rfl) _) se_str (ses_cons (star_cons (by rfl) _) se_bytes ses_nil)))) sss_nil) sss_nil) (sss_cons (ss_name G fo (by rfl) (by rfl) (se_fn G fo.eo (by rfl) hg_least_from (by rfl) hk_least_from (by rfl) (ses_cons (star_cons (by rfl) _) (se_attr G (by rfl) (by rfl) (se_var fo.eo (by rfl) (by rfl))) (ses_cons (star_cons (by rfl) _) (se_ite (sc_val G (fun _ => rfl) (se_attr G (by rfl) (by rfl) (se_var fo.eo (by rfl) (by rfl)))) (se_add G (se_attr G (by rfl) (by rfl) (se_var fo.eo (by rfl) (by rfl))) se_int) (se_attr G (by rfl) (by rfl) (se_var fo.eo (by rfl) (by rfl)))) ses_nil)))) (sss_cons (ss_if (sc_cmp G (by rfl) (se_var fo.eo (by rfl) (by rfl)) se_int) (sss_cons (ss_ret (se_meth G (by rfl) (by rfl) (by rfl) (by rfl) (i := 1) (by rfl) hk_failed (se_var fo.eo (by rfl) (by rfl)) (ses_cons (star_cons (by rfl) _) se_str ses_nil))) sss_nil) sss_nil) (sss_cons (ss_if (sc_chain G (by rfl) se_int (se_attr G (by rfl) (by rfl) (se_var fo.eo (by rfl) (by rfl))) (se_var fo.eo (by rfl) (by rfl))) (sss_cons (ss_ret (se_meth G (by rfl) (by rfl) (by rfl) (by rfl) (i := 1) (by rfl) hk_failed (se_var fo.eo (by rfl) (by rfl)) (ses_cons (star_cons (by rfl) _) se_str ses_nil))) sss_nil) sss_nil) (sss_cons (ss_ret (se_meth G (by rfl) (by rfl) (by rfl) (by rfl) (i := 2) (by rfl) hk_found (se_var fo.eo (by rfl) (by rfl)) (ses_cons (star_cons (by rfl) _) (se_var fo.eo (by rfl) (by rfl)) ses_nil))) sss_nil))))))))
theorem ok_write (ht : P.tab 135 = some (.fn b_write 3 3 [.int 0])) : FnOk (kx1 w p loose mean mg mb base tk) P l1meths 135 := by
  refine' fn_enter (κ := (kx1 w p loose mean mg mb base tk)) (vs := [("self", .loc), ("octets", .loc), ("number", .loc)]) (dvals := [.int 0 340]) ht ?ho ?hdata ?hcd ?hbody ?hclo ?hgl ?hbu ?hd ?hnp ?hbind ?hok ?hco ?hgen ?hk ?h
  case ho => show (K4 w.params).lookup _ = _; k_is
  case hdata => rfl
  case hcd => show codeIn (K4 w.params) _ _ = true; k_is
  case hbody => rfl
  case hclo => rfl
  case hgl => rfl
  case hbu => rfl
  case hd => exact .cons (.int _ _) .nil
  case hnp => decide
  case hbind =>
    intro s args X h1 h2
    have h3 : args.length = 3 ∨ args.length = 2 := by have h2 : 3 ≤ args.length + 1 := h2; omega
    rcases h3 with h3 | h3
    · obtain ⟨a0, a1, a2, rfl⟩ := len3 h3
      have X : (K4 w.params).In s.heap := X
      exact binds_K X rfl (by k_is) rfl rfl rfl
    · obtain ⟨a0, a1, rfl⟩ := len2 h3
      have X : (K4 w.params).In s.heap := X
      exact binds_K X rfl (by k_is) rfl rfl rfl
  case hok => decide +kernel
  case hco => rfl
  case hgen => rfl
  case hk => rfl
  intro n G L vars fo
  exact (sss_cons (ss_attr G (by rfl) (by rfl) se_int (se_var fo.eo (by rfl) (by rfl))) (sss_cons (ss_if (sc_cmp G (by rfl) (se_attr G (by rfl) (by rfl) (se_var fo.eo (by rfl) (by rfl))) se_str) (sss_cons (ss_if (sc_cmp G (by rfl) (se_attr G (by rfl) (by rfl) (se_var fo.eo (by rfl) (by rfl))) (se_tup G (by decide) (ses_cons (star_cons (by rfl) _) se_str (ses_cons (star_cons (by rfl) _) se_str ses_nil)))) (sss_cons (ss_ret se_str) sss_nil) sss_nil) (sss_cons (ss_name G fo (by rfl) (by rfl) (se_add G (se_attr G (by rfl) (by rfl) (se_var fo.eo (by rfl) (by rfl))) se_int)) sss_nil)) (sss_cons (ss_if (sc_cmp G (by rfl) (se_attr G (by rfl) (by rfl) (se_var fo.eo (by rfl) (by rfl))) (se_tup G (by decide) (ses_cons (star_cons (by rfl) _) se_str (ses_cons (star_cons (by rfl) _) se_str ses_nil)))) (sss_cons (ss_ret se_str) sss_nil) sss_nil) sss_nil)) (sss_cons (ss_if (sc_bool (sa_or (sc_cmp G (by rfl) (se_var fo.eo (by rfl) (by rfl)) se_int) (sa_or_one (sc_chain G (by rfl) se_int (se_attr G (by rfl) (by rfl) (se_var fo.eo (by rfl) (by rfl))) (se_var fo.eo (by rfl) (by rfl)))))) (sss_cons (ss_ret se_str) sss_nil) sss_nil) (sss_cons (ss_if (sc_cmp G (by rfl) (se_var fo.eo (by rfl) (by rfl)) (se_attr G (by rfl) (by rfl) (se_var fo.eo (by rfl) (by rfl)))) (sss_cons (ss_ret se_str) sss_nil) sss_nil) (sss_cons (ss_sub G (by rfl) (se_bi (f := .bytes) G fo.eo (by rfl) hb_bytes (by rfl) (se_var fo.eo (by rfl) (by rfl))) (se_attr G (by rfl) (by rfl) (se_var fo.eo (by rfl) (by rfl))) (se_var fo.eo (by rfl) (by rfl))) (sss_cons (ss_attr G (by rfl) (by rfl) (se_var fo.eo (by rfl) (by rfl)) (se_var fo.eo (by rfl) (by rfl))) (sss_cons (ss_ret se_str) sss_nil)))))))
theorem ok_chosen (ht : P.tab 142 = some (.fn b_chosen 3 2 [])) : FnOk (kx1 w p loose mean mg mb base tk) P l1meths 142 := by
  refine' fn_enter (κ := (kx1 w p loose mean mg mb base tk)) (vs := [("self", .loc), ("number", .loc), ("last", .loc)]) (dvals := []) ht ?ho ?hdata ?hcd ?hbody ?hclo ?hgl ?hbu ?hd ?hnp ?hbind ?hok ?hco ?hgen ?hk ?h
  case ho => show (K4 w.params).lookup _ = _; k_is
  case hdata => rfl
  case hcd => show codeIn (K4 w.params) _ _ = true; k_is
  case hbody => rfl
  case hclo => rfl
  case hgl => rfl
  case hbu => rfl
  case hd => exact .nil
  case hnp => decide
  case hbind =>
    intro s args X h1 h2
    obtain ⟨a0, a1, rfl⟩ := len2 (Nat.le_antisymm h1 h2)
    exact BindsTo.of_eq rfl
  case hok => decide +kernel
  case hco => rfl
  case hgen => rfl
  case hk => rfl
  intro n G L vars fo
  exact (sss_cons (ss_name G fo (by rfl) (by rfl) (se_attr G (by rfl) (by rfl) (se_var fo.eo (by rfl) (by rfl)))) (sss_cons (ss_attr G (by rfl) (by rfl) se_int (se_var fo.eo (by rfl) (by rfl))) (sss_cons (ss_if (sc_cmp G (by rfl) (se_attr G (by rfl) (by rfl) (se_var fo.eo (by rfl) (by rfl))) se_str) (sss_cons (ss_ret (se_tup G (by decide) (ses_cons (star_cons (by rfl) _) se_str (ses_cons (star_cons (by rfl) _) se_int ses_nil)))) sss_nil) sss_nil) (sss_cons (ss_if (sc_cmp G (by rfl) (se_attr G (by rfl) (by rfl) (se_var fo.eo (by rfl) (by rfl))) se_str) (sss_cons (ss_ret (se_ite (sc_cmp G (by rfl) (se_var fo.eo (by rfl) (by rfl)) se_int) (se_tup G (by decide) (ses_cons (star_cons (by rfl) _) se_str (ses_cons (star_cons (by rfl) _) (se_var fo.eo (by rfl) (by rfl)) ses_nil))) (se_tup G (by decide) (ses_cons (star_cons (by rfl) _) se_str (ses_cons (star_cons (by rfl) _) se_int ses_nil))))) sss_nil) sss_nil) (sss_cons (ss_ret (se_ite (sc_cmp G (by rfl) (se_var fo.eo (by rfl) (by rfl)) (se_attr G (by rfl) (by rfl) (se_var fo.eo (by rfl) (by rfl)))) (se_tup G (by decide) (ses_cons (star_cons (by rfl) _) se_str (ses_cons (star_cons (by rfl) _) (se_var fo.eo (by rfl) (by rfl)) ses_nil))) (se_tup G (by decide) (ses_cons (star_cons (by rfl) _) se_str (ses_cons (star_cons (by rfl) _) se_int ses_nil))))) sss_nil)))))
theorem ok_rewrite (ht : P.tab 150 = some (.fn b_rewrite 5 3 [.int 0])) : FnOk (kx1 w p loose mean mg mb base tk) P l1meths 150 := by
  refine' fn_enter (κ := (kx1 w p loose mean mg mb base tk)) (vs := [("self", .loc), ("octets", .loc), ("number", .loc), ("status", .loc), ("at", .loc)]) (dvals := [.int 0 359]) ht ?ho ?hdata ?hcd ?hbody ?hclo ?hgl ?hbu ?hd ?hnp ?hbind ?hok ?hco ?hgen ?hk ?h
  case ho => show (K4 w.params).lookup _ = _; k_is
  case hdata => rfl
  case hcd => show codeIn (K4 w.params) _ _ = true; k_is
  case hbody => rfl
  case hclo => rfl
  case hgl => rfl
  case hbu => rfl
  case hd => exact .cons (.int _ _) .nil
  case hnp => decide
  case hbind =>
    intro s args X h1 h2
    have h3 : args.length = 3 ∨ args.length = 2 := by have h2 : 3 ≤ args.length + 1 := h2; omega
    rcases h3 with h3 | h3
    · obtain ⟨a0, a1, a2, rfl⟩ := len3 h3
      have X : (K4 w.params).In s.heap := X
      exact binds_K X rfl (by k_is) rfl rfl rfl
    · obtain ⟨a0, a1, rfl⟩ := len2 h3
      have X : (K4 w.params).In s.heap := X
      exact binds_K X rfl (by k_is) rfl rfl rfl
  case hok => decide +kernel
  case hco => rfl
  case hgen => rfl
  case hk => rfl
  intro n G L vars fo
  exact (sss_cons (ss_tup (by rfl) (by rfl) (se_meth G (by rfl) (by rfl) (by rfl) (by rfl) (i := 5) (by rfl) hk_chosen (se_var fo.eo (by rfl) (by rfl)) (ses_cons (star_cons (by rfl) _) (se_var fo.eo (by rfl) (by rfl)) ses_nil)) (tt_tup G (tts_cons (by rfl) (tt_var G fo (by rfl)) (tts_cons (by rfl) (tt_var G fo (by rfl)) tts_nil)))) (sss_cons (ss_if (sc_cmp G (by rfl) (se_var fo.eo (by rfl) (by rfl)) se_str) (sss_cons (ss_sub G (by rfl) (se_bi (f := .bytes) G fo.eo (by rfl) hb_bytes (by rfl) (se_var fo.eo (by rfl) (by rfl))) (se_attr G (by rfl) (by rfl) (se_var fo.eo (by rfl) (by rfl))) (se_var fo.eo (by rfl) (by rfl))) (sss_cons (ss_attr G (by rfl) (by rfl) (se_var fo.eo (by rfl) (by rfl)) (se_var fo.eo (by rfl) (by rfl))) sss_nil)) sss_nil) (sss_cons (ss_ret (se_var fo.eo (by rfl) (by rfl))) sss_nil)))
theorem ok_delete (ht : P.tab 158 = some (.fn b_delete 4 2 [.int 0])) : FnOk (kx1 w p loose mean mg mb base tk) P l1meths 158 := by
  refine' fn_enter (κ := (kx1 w p loose mean mg mb base tk)) (vs := [("self", .loc), ("number", .loc), ("status", .loc), ("at", .loc)]) (dvals := [.int 0 371]) ht ?ho ?hdata ?hcd ?hbody ?hclo ?hgl ?hbu ?hd ?hnp ?hbind ?hok ?hco ?hgen ?hk ?h
  case ho => show (K4 w.params).lookup _ = _; k_is
  case hdata => rfl
  case hcd => show codeIn (K4 w.params) _ _ = true; k_is
  case hbody => rfl
  case hclo => rfl
  case hgl => rfl
  case hbu => rfl
  case hd => exact .cons (.int _ _) .nil
  case hnp => decide
  case hbind =>
    intro s args X h1 h2
    have h3 : args.length = 2 ∨ args.length = 1 := by have h2 : 2 ≤ args.length + 1 := h2; omega
    rcases h3 with h3 | h3
    · obtain ⟨a0, a1, rfl⟩ := len2 h3
      have X : (K4 w.params).In s.heap := X
      exact binds_K X rfl (by k_is) rfl rfl rfl
    · obtain ⟨a0, rfl⟩ := len1 h3
      have X : (K4 w.params).In s.heap := X
      exact binds_K X rfl (by k_is) rfl rfl rfl
  case hok => decide +kernel
  case hco => rfl
  case hgen => rfl
  case hk => rfl
  intro n G L vars fo
  exact (sss_cons (ss_tup (by rfl) (by rfl) (se_meth G (by rfl) (by rfl) (by rfl) (by rfl) (i := 5) (by rfl) hk_chosen (se_var fo.eo (by rfl) (by rfl)) (ses_cons (star_cons (by rfl) _) (se_var fo.eo (by rfl) (by rfl)) ses_nil)) (tt_tup G (tts_cons (by rfl) (tt_var G fo (by rfl)) (tts_cons (by rfl) (tt_var G fo (by rfl)) tts_nil)))) (sss_cons (ss_if (sc_cmp G (by rfl) (se_var fo.eo (by rfl) (by rfl)) se_str) (sss_cons (ss_expr fo (by rfl) (se_bm (f := .popD) G (by rfl) (by rfl) (by rfl) (by rfl) (se_attr G (by rfl) (by rfl) (se_var fo.eo (by rfl) (by rfl))) (ses_cons (star_cons (by rfl) _) (se_var fo.eo (by rfl) (by rfl)) ses_nil))) sss_nil) sss_nil) (sss_cons (ss_ret (se_var fo.eo (by rfl) (by rfl))) sss_nil)))
theorem ok_law_swept (ht : P.tab 206 = some (.fn b_law_swept 7 2 [])) : FnOk (kx1 w p loose mean mg mb base tk) P l1meths 206 := by
  refine' fn_enter (κ := (kx1 w p loose mean mg mb base tk)) (vs := [("content", .loc), ("numbers", .loc), ("open_file", .loc), ("gone", .loc), ("odd", .loc), ("status", .loc), ("octets", .loc)]) (dvals := []) ht ?ho ?hdata ?hcd ?hbody ?hclo ?hgl ?hbu ?hd ?hnp ?hbind ?hok ?hco ?hgen ?hk ?h
  case ho => show (K4 w.params).lookup _ = _; k_is
  case hdata => rfl
  case hcd => show codeIn (K4 w.params) _ _ = true; k_is
  case hbody => rfl
  case hclo => rfl
  case hgl => rfl
  case hbu => rfl
  case hd => exact .nil
  case hnp => decide
  case hbind =>
    intro s args X h1 h2
    obtain ⟨a0, a1, rfl⟩ := len2 (Nat.le_antisymm h1 h2)
    exact BindsTo.of_eq rfl
  case hok => decide +kernel
  case hco => rfl
  case hgen => rfl
  case hk => rfl
  intro n G L vars fo
  exact (sss_cons (ss_swap G fo (ns := ["open_file", "gone", "odd"]) (by rfl) (by rfl) (by rfl) (by rfl) (se_tup G (by decide) (ses_cons (star_cons (by rfl) _) (se_fn G fo.eo (by rfl) hg_RelFile (by rfl) hk_RelFile (by rfl) (ses_cons (star_cons (by rfl) _) (se_var fo.eo (by rfl) (by rfl)) (ses_cons (star_cons (by rfl) _) se_str (ses_cons (star_cons (by rfl) _) se_str ses_nil)))) (ses_cons (star_cons (by rfl) _) (se_list G (by decide) ses_nil) (ses_cons (star_cons (by rfl) _) (se_list G (by decide) ses_nil) ses_nil))))) (sss_cons (ss_if (sc_cmp G (by rfl) (se_meth G (by rfl) (by rfl) (by rfl) (by rfl) (i := 7) (by rfl) hk_delete (se_var fo.eo (by rfl) (by rfl)) ses_nil) se_str) (sss_cons (ss_expr fo (by rfl) (se_bm (f := .append) G (by rfl) (by rfl) (by rfl) (by rfl) (se_var fo.eo (by rfl) (by rfl)) (ses_cons (star_cons (by rfl) _) se_str ses_nil))) sss_nil) sss_nil) (sss_cons (ss_tup (by rfl) (by rfl) (se_meth G (by rfl) (by rfl) (by rfl) (by rfl) (i := 3) (by rfl) hk_read_next (se_var fo.eo (by rfl) (by rfl)) ses_nil) (tt_tup G (tts_cons (by rfl) (tt_var G fo (by rfl)) (tts_cons (by rfl) (tt_var G fo (by rfl)) tts_nil)))) (sss_cons (ss_while (sc_cmp G (by rfl) (se_var fo.eo (by rfl) (by rfl)) se_str) (sss_cons (ss_if (sc_cmp G (by rfl) (se_attr G (by rfl) (by rfl) (se_var fo.eo (by rfl) (by rfl))) (se_var fo.eo (by rfl) (by rfl))) (sss_cons (ss_expr fo (by rfl) (se_bm (f := .append) G (by rfl) (by rfl) (by rfl) (by rfl) (se_var fo.eo (by rfl) (by rfl)) (ses_cons (star_cons (by rfl) _) (se_tup G (by decide) (ses_cons (star_cons (by rfl) _) (se_attr G (by rfl) (by rfl) (se_var fo.eo (by rfl) (by rfl))) (ses_cons (star_cons (by rfl) _) (se_meth G (by rfl) (by rfl) (by rfl) (by rfl) (i := 7) (by rfl) hk_delete (se_var fo.eo (by rfl) (by rfl)) ses_nil) ses_nil))) ses_nil))) (sss_cons (ss_if (sc_bool (sa_or (sc_cmp G (by rfl) (se_meth G (by rfl) (by rfl) (by rfl) (by rfl) (i := 7) (by rfl) hk_delete (se_var fo.eo (by rfl) (by rfl)) ses_nil) se_str) (sa_or_one (sc_cmp G (by rfl) (se_meth G (by rfl) (by rfl) (by rfl) (by rfl) (i := 6) (by rfl) hk_rewrite (se_var fo.eo (by rfl) (by rfl)) (ses_cons (star_cons (by rfl) _) se_bytes ses_nil)) se_str)))) (sss_cons (ss_expr fo (by rfl) (se_bm (f := .append) G (by rfl) (by rfl) (by rfl) (by rfl) (se_var fo.eo (by rfl) (by rfl)) (ses_cons (star_cons (by rfl) _) (se_attr G (by rfl) (by rfl) (se_var fo.eo (by rfl) (by rfl))) ses_nil))) sss_nil) sss_nil) sss_nil)) sss_nil) (sss_cons (ss_tup (by rfl) (by rfl) (se_meth G (by rfl) (by rfl) (by rfl) (by rfl) (i := 3) (by rfl) hk_read_next (se_var fo.eo (by rfl) (by rfl)) ses_nil) (tt_tup G (tts_cons (by rfl) (tt_var G fo (by rfl)) (tts_cons (by rfl) (tt_var G fo (by rfl)) tts_nil)))) sss_nil))) (sss_cons (ss_ret (se_tup G (by decide) (ses_cons (star_cons (by rfl) _) (se_var fo.eo (by rfl) (by rfl)) (ses_cons (star_cons (by rfl) _) (se_var fo.eo (by rfl) (by rfl)) (ses_cons (star_cons (by rfl) _) (se_var fo.eo (by rfl) (by rfl)) ses_nil))))) sss_nil)))))
theorem ok_law_emptied (ht : P.tab 211 = some (.fn b_law_emptied 3 2 [])) : FnOk (kx1 w p loose mean mg mb base tk) P l1meths 211 := by
  refine' fn_enter (κ := (kx1 w p loose mean mg mb base tk)) (vs := [("content", .loc), ("numbers", .loc), ("open_file", .cell)]) (dvals := []) ht ?ho ?hdata ?hcd ?hbody ?hclo ?hgl ?hbu ?hd ?hnp ?hbind ?hok ?hco ?hgen ?hk ?h
  case ho => show (K4 w.params).lookup _ = _; k_is
  case hdata => rfl
  case hcd => show codeIn (K4 w.params) _ _ = true; k_is
  case hbody => rfl
  case hclo => rfl
  case hgl => rfl
  case hbu => rfl
  case hd => exact .nil
  case hnp => decide
  case hbind =>
    intro s args X h1 h2
    obtain ⟨a0, a1, rfl⟩ := len2 (Nat.le_antisymm h1 h2)
    exact BindsTo.of_eq rfl
  case hok => decide +kernel
  case hco => rfl
  case hgen => rfl
  case hk => rfl
  intro n G L vars fo
  exact (sss_cons (ss_name G fo (by rfl) (by rfl) (se_fn G fo.eo (by rfl) hg_RelFile (by rfl) hk_RelFile (by rfl) (ses_cons (star_cons (by rfl) _) (se_var fo.eo (by rfl) (by rfl)) (ses_cons (star_cons (by rfl) _) se_str (ses_cons (star_cons (by rfl) _) se_str ses_nil))))) (sss_cons (ss_ret (se_comp G fo (by rfl) (by rfl) (fun _ => rfl) (se_var fo.eo (by rfl) (by rfl)) (fun C fo1 => (se_meth G (by rfl) (by rfl) (by rfl) (by rfl) (i := 7) (by rfl) hk_delete (se_var fo1.eo (by rfl) (by rfl)) (ses_cons (star_cons (by rfl) _) (se_var fo1.eo (by rfl) (by rfl)) ses_nil))) (fun C fo1 => st_nil))) sss_nil))
theorem ok_law_met (ht : P.tab 218 = some (.fn b_law_met 6 2 [])) : FnOk (kx1 w p loose mean mg mb base tk) P l1meths 218 := by
  refine' fn_enter (κ := (kx1 w p loose mean mg mb base tk)) (vs := [("content", .loc), ("deeds", .loc), ("open_file", .loc), ("told", .loc), ("word", .loc), ("number", .loc)]) (dvals := []) ht ?ho ?hdata ?hcd ?hbody ?hclo ?hgl ?hbu ?hd ?hnp ?hbind ?hok ?hco ?hgen ?hk ?h
  case ho => show (K4 w.params).lookup _ = _; k_is
  case hdata => rfl
  case hcd => show codeIn (K4 w.params) _ _ = true; k_is
  case hbody => rfl
  case hclo => rfl
  case hgl => rfl
  case hbu => rfl
  case hd => exact .nil
  case hnp => decide
  case hbind =>
    intro s args X h1 h2
    obtain ⟨a0, a1, rfl⟩ := len2 (Nat.le_antisymm h1 h2)
    exact BindsTo.of_eq rfl
  case hok => decide +kernel
  case hco => rfl
  case hgen => rfl
  case hk => rfl
  intro n G L vars fo
  exact (sss_cons (ss_swap G fo (ns := ["open_file", "told"]) (by rfl) (by rfl) (by rfl) (by rfl) (se_tup G (by decide) (ses_cons (star_cons (by rfl) _) (se_fn G fo.eo (by rfl) hg_RelFile (by rfl) hk_RelFile (by rfl) (ses_cons (star_cons (by rfl) _) (se_var fo.eo (by rfl) (by rfl)) (ses_cons (star_cons (by rfl) _) se_str (ses_cons (star_cons (by rfl) _) se_str ses_nil)))) (ses_cons (star_cons (by rfl) _) (se_list G (by decide) ses_nil) ses_nil)))) (sss_cons (ss_for G fo (fun _ => rfl) (se_var fo.eo (by rfl) (by rfl)) (tt_tup G (tts_cons (by rfl) (tt_var G fo (by rfl)) (tts_cons (by rfl) (tt_var G fo (by rfl)) tts_nil))) (sss_cons (ss_if (sc_cmp G (by rfl) (se_var fo.eo (by rfl) (by rfl)) se_str) (sss_cons (ss_expr fo (by rfl) (se_bm (f := .append) G (by rfl) (by rfl) (by rfl) (by rfl) (se_var fo.eo (by rfl) (by rfl)) (ses_cons (star_cons (by rfl) _) (se_tup G (by decide) (ses_cons (star_cons (by rfl) _) (se_sub G (fun _ _ => rfl) (se_meth G (by rfl) (by rfl) (by rfl) (by rfl) (i := 3) (by rfl) hk_read_next (se_var fo.eo (by rfl) (by rfl)) ses_nil) se_int) (ses_cons (star_cons (by rfl) _) (se_attr G (by rfl) (by rfl) (se_var fo.eo (by rfl) (by rfl))) ses_nil))) ses_nil))) sss_nil) (sss_cons (ss_if (sc_cmp G (by rfl) (se_var fo.eo (by rfl) (by rfl)) se_str) (sss_cons (ss_expr fo (by rfl) (se_bm (f := .append) G (by rfl) (by rfl) (by rfl) (by rfl) (se_var fo.eo (by rfl) (by rfl)) (ses_cons (star_cons (by rfl) _) (se_meth G (by rfl) (by rfl) (by rfl) (by rfl) (i := 7) (by rfl) hk_delete (se_var fo.eo (by rfl) (by rfl)) (ses_cons (star_cons (by rfl) _) (se_var fo.eo (by rfl) (by rfl)) ses_nil)) ses_nil))) sss_nil) (sss_cons (ss_expr fo (by rfl) (se_bm (f := .append) G (by rfl) (by rfl) (by rfl) (by rfl) (se_var fo.eo (by rfl) (by rfl)) (ses_cons (star_cons (by rfl) _) (se_meth G (by rfl) (by rfl) (by rfl) (by rfl) (i := 4) (by rfl) hk_write (se_var fo.eo (by rfl) (by rfl)) (ses_cons (star_cons (by rfl) _) se_bytes (ses_cons (star_cons (by rfl) _) (se_var fo.eo (by rfl) (by rfl)) ses_nil))) ses_nil))) sss_nil)) sss_nil)) sss_nil)) (sss_cons (ss_ret (se_var fo.eo (by rfl) (by rfl))) sss_nil)))
theorem ok_law_met_due (ht : P.tab 223 = some (.fn b_law_met_due 10 2 [])) : FnOk (kx1 w p loose mean mg mb base tk) P l1meths 223 := by
  refine' fn_enter (κ := (kx1 w p loose mean mg mb base tk)) (vs := [("rows", .loc), ("deeds", .loc), ("there", .loc), ("low", .cell), ("last", .loc), ("found", .loc), ("word", .loc), ("number", .cell), ("above", .loc), ("status", .loc)]) (dvals := []) ht ?ho ?hdata ?hcd ?hbody ?hclo ?hgl ?hbu ?hd ?hnp ?hbind ?hok ?hco ?hgen ?hk ?h
  case ho => show (K4 w.params).lookup _ = _; k_is
  case hdata => rfl
  case hcd => show codeIn (K4 w.params) _ _ = true; k_is
  case hbody => rfl
  case hclo => rfl
  case hgl => rfl
  case hbu => rfl
  case hd => exact .nil
  case hnp => decide
  case hbind =>
    intro s args X h1 h2
    obtain ⟨a0, a1, rfl⟩ := len2 (Nat.le_antisymm h1 h2)
    exact BindsTo.of_eq rfl
  case hok => decide +kernel
  case hco => rfl
  case hgen => rfl
  case hk => rfl
  intro n G L vars fo
  exact (sss_cons (ss_tup (by rfl) (by rfl) (se_tup G (by decide) (ses_cons (star_cons (by rfl) _) (se_bi (f := .sorted) G fo.eo (by rfl) hb_sorted (by rfl) (se_var fo.eo (by rfl) (by rfl))) (ses_cons (star_cons (by rfl) _) se_int (ses_cons (star_cons (by rfl) _) se_int (ses_cons (star_cons (by rfl) _) (se_list G (by decide) ses_nil) ses_nil))))) (tt_tup G (tts_cons (by rfl) (tt_var G fo (by rfl)) (tts_cons (by rfl) (tt_var G fo (by rfl)) (tts_cons (by rfl) (tt_var G fo (by rfl)) (tts_cons (by rfl) (tt_var G fo (by rfl)) tts_nil)))))) (sss_cons (ss_for G fo (fun _ => rfl) (se_var fo.eo (by rfl) (by rfl)) (tt_tup G (tts_cons (by rfl) (tt_var G fo (by rfl)) (tts_cons (by rfl) (tt_var G fo (by rfl)) tts_nil))) (sss_cons (ss_if (sc_cmp G (by rfl) (se_var fo.eo (by rfl) (by rfl)) se_str) (sss_cons (ss_comp G fo (by rfl) (by rfl) (by rfl) (by rfl) (fun _ => rfl) (se_bi (f := .sorted) G fo.eo (by rfl) hb_sorted (by rfl) (se_var fo.eo (by rfl) (by rfl))) (fun C fo2 => (se_var fo2.eo (by rfl) (by rfl))) (fun C fo2 => (st_one (sc_bool (sa_and (sc_cmp G (by rfl) (se_var fo2.eo (by rfl) (by rfl)) se_none) (sa_and_one (sc_cmp G (by rfl) (se_var fo2.eo (by rfl) (by rfl)) (se_var fo2.eo (by rfl) (by rfl))))))))) (sss_cons (ss_name G fo (by rfl) (by rfl) (se_ite (sc_cmp G (by rfl) (se_var fo.eo (by rfl) (by rfl)) (se_list G (by decide) ses_nil)) se_str (se_ite (sc_cmp G (by rfl) (se_var fo.eo (by rfl) (by rfl)) se_none) se_str se_str))) (sss_cons (ss_name G fo (by rfl) (by rfl) (se_ite (sc_cmp G (by rfl) (se_var fo.eo (by rfl) (by rfl)) (se_list G (by decide) ses_nil)) (se_sub G (fun _ _ => rfl) (se_var fo.eo (by rfl) (by rfl)) se_int) se_none)) (sss_cons (ss_name G fo (by rfl) (by rfl) (se_ite (sc_cmp G (by rfl) (se_var fo.eo (by rfl) (by rfl)) se_none) (se_var fo.eo (by rfl) (by rfl)) (se_var fo.eo (by rfl) (by rfl)))) (sss_cons (ss_expr fo (by rfl) (se_bm (f := .append) G (by rfl) (by rfl) (by rfl) (by rfl) (se_var fo.eo (by rfl) (by rfl)) (ses_cons (star_cons (by rfl) _) (se_tup G (by decide) (ses_cons (star_cons (by rfl) _) (se_var fo.eo (by rfl) (by rfl)) (ses_cons (star_cons (by rfl) _) (se_var fo.eo (by rfl) (by rfl)) ses_nil))) ses_nil))) sss_nil))))) (sss_cons (ss_if (sc_cmp G (by rfl) (se_var fo.eo (by rfl) (by rfl)) se_str) (sss_cons (ss_expr fo (by rfl) (se_bm (f := .append) G (by rfl) (by rfl) (by rfl) (by rfl) (se_var fo.eo (by rfl) (by rfl)) (ses_cons (star_cons (by rfl) _) (se_ite (sc_cmp G (by rfl) (se_var fo.eo (by rfl) (by rfl)) (se_var fo.eo (by rfl) (by rfl))) se_str se_str) ses_nil))) (sss_cons (ss_comp G fo (by rfl) (by rfl) (by rfl) (by rfl) (fun _ => rfl) (se_var fo.eo (by rfl) (by rfl)) (fun C fo3 => (se_var fo3.eo (by rfl) (by rfl))) (fun C fo3 => (st_one (sc_cmp G (by rfl) (se_var fo3.eo (by rfl) (by rfl)) (se_var fo3.eo (by rfl) (by rfl)))))) sss_nil)) (sss_cons (ss_expr fo (by rfl) (se_bm (f := .append) G (by rfl) (by rfl) (by rfl) (by rfl) (se_var fo.eo (by rfl) (by rfl)) (ses_cons (star_cons (by rfl) _) (se_ite (sc_cmp G (by rfl) (se_var fo.eo (by rfl) (by rfl)) (se_var fo.eo (by rfl) (by rfl))) se_str se_str) ses_nil))) (sss_cons (ss_name G fo (by rfl) (by rfl) (se_ite (sc_cmp G (by rfl) (se_var fo.eo (by rfl) (by rfl)) (se_var fo.eo (by rfl) (by rfl))) (se_var fo.eo (by rfl) (by rfl)) (se_var fo.eo (by rfl) (by rfl)))) (sss_cons (ss_name G fo (by rfl) (by rfl) (se_add G (se_var fo.eo (by rfl) (by rfl)) (se_ite (sc_cmp G (by rfl) (se_var fo.eo (by rfl) (by rfl)) (se_var fo.eo (by rfl) (by rfl))) (se_list G (by decide) ses_nil) (se_list G (by decide) (ses_cons (star_cons (by rfl) _) (se_var fo.eo (by rfl) (by rfl)) ses_nil))))) sss_nil)))) sss_nil)) sss_nil)) (sss_cons (ss_ret (se_tup G (by decide) (ses_cons (star_cons (by rfl) _) (se_var fo.eo (by rfl) (by rfl)) (ses_cons (star_cons (by rfl) _) (se_bi (f := .sorted) G fo.eo (by rfl) hb_sorted (by rfl) (se_var fo.eo (by rfl) (by rfl))) ses_nil)))) sss_nil)))
theorem ok_law_right (ht : P.tab 228 = some (.fn b_law_right 7 2 [])) : FnOk (kx1 w p loose mean mg mb base tk) P l1meths 228 := by
  refine' fn_enter (κ := (kx1 w p loose mean mg mb base tk)) (vs := [("rows", .cell), ("numbers", .cell), ("one", .loc), ("two", .loc), ("left", .loc), ("gone", .loc), ("dues", .loc)]) (dvals := []) ht ?ho ?hdata ?hcd ?hbody ?hclo ?hgl ?hbu ?hd ?hnp ?hbind ?hok ?hco ?hgen ?hk ?h
  case ho => show (K4 w.params).lookup _ = _; k_is
  case hdata => rfl
  case hcd => show codeIn (K4 w.params) _ _ = true; k_is
  case hbody => rfl
  case hclo => rfl
  case hgl => rfl
  case hbu => rfl
  case hd => exact .nil
  case hnp => decide
  case hbind =>
    intro s args X h1 h2
    obtain ⟨a0, a1, rfl⟩ := len2 (Nat.le_antisymm h1 h2)
    exact BindsTo.of_eq rfl
  case hok => decide +kernel
  case hco => rfl
  case hgen => rfl
  case hk => rfl
  intro n G L vars fo
  exact (sss_cons (ss_swap G fo (ns := ["one", "two"]) (by rfl) (by rfl) (by rfl) (by rfl) (se_tup G (by decide) (ses_cons (star_cons (by rfl) _) (se_bi (f := .dict) G fo.eo (by rfl) hb_dict (by rfl) (se_var fo.eo (by rfl) (by rfl))) (ses_cons (star_cons (by rfl) _) (se_bi (f := .dict) G fo.eo (by rfl) hb_dict (by rfl) (se_var fo.eo (by rfl) (by rfl))) ses_nil)))) (sss_cons (ss_name G fo (by rfl) (by rfl) (se_bi (f := .dict) G fo.eo (by rfl) hb_dict (by rfl) (se_comp G fo (by rfl) (by rfl) (fun _ => rfl) (se_var fo.eo (by rfl) (by rfl)) (fun C fo4 => (se_tup G (by decide) (ses_cons (star_cons (by rfl) _) (se_var fo4.eo (by rfl) (by rfl)) (ses_cons (star_cons (by rfl) _) (se_sub G (fun _ _ => rfl) (se_var fo4.eo (by rfl) (by rfl)) (se_var fo4.eo (by rfl) (by rfl))) ses_nil)))) (fun C fo4 => (st_one (sc_cmp G (by rfl) (se_var fo4.eo (by rfl) (by rfl)) (se_var fo4.eo (by rfl) (by rfl)))))))) (sss_cons (ss_comp G fo (by rfl) (by rfl) (by rfl) (by rfl) (fun _ => rfl) (se_bi (f := .sorted) G fo.eo (by rfl) hb_sorted (by rfl) (se_var fo.eo (by rfl) (by rfl))) (fun C fo5 => (se_tup G (by decide) (ses_cons (star_cons (by rfl) _) (se_var fo5.eo (by rfl) (by rfl)) (ses_cons (star_cons (by rfl) _) se_str ses_nil)))) (fun C fo5 => (st_one (sc_cmp G (by rfl) (se_var fo5.eo (by rfl) (by rfl)) (se_var fo5.eo (by rfl) (by rfl)))))) (sss_cons (ss_if (sc_bool (sa_or (sc_cmp G (by rfl) (se_fn G fo.eo (by rfl) hg__law_swept (by rfl) hk__law_swept (by rfl) (ses_cons (star_cons (by rfl) _) (se_var fo.eo (by rfl) (by rfl)) (ses_cons (star_cons (by rfl) _) (se_var fo.eo (by rfl) (by rfl)) ses_nil))) (se_tup G (by decide) (ses_cons (star_cons (by rfl) _) (se_var fo.eo (by rfl) (by rfl)) (ses_cons (star_cons (by rfl) _) (se_list G (by decide) ses_nil) (ses_cons (star_cons (by rfl) _) se_str ses_nil))))) (sa_or_one (sc_cmp G (by rfl) (se_var fo.eo (by rfl) (by rfl)) (se_var fo.eo (by rfl) (by rfl)))))) (sss_cons (ss_ret se_bool) sss_nil) sss_nil) (sss_cons (ss_compE G fo (by rfl) (by rfl) (by rfl) (by rfl) (fun _ => rfl) (by rfl) hb_enumerate (by rfl) (se_var fo.eo (by rfl) (by rfl)) (fun C fo6 => (se_ite (sc_bool (sa_and (sc_cmp G (by rfl) (se_var fo6.eo (by rfl) (by rfl)) (se_var fo6.eo (by rfl) (by rfl))) (sa_and_one (sc_cmp G (by rfl) (se_var fo6.eo (by rfl) (by rfl)) (se_upto G (fun _ _ => rfl) (se_var fo6.eo (by rfl) (by rfl)) (se_var fo6.eo (by rfl) (by rfl))))))) se_str se_str))) (sss_cons (ss_ret (se_and G (se_cmp G (by rfl) (se_fn G fo.eo (by rfl) hg__law_emptied (by rfl) hk__law_emptied (by rfl) (ses_cons (star_cons (by rfl) _) (se_var fo.eo (by rfl) (by rfl)) (ses_cons (star_cons (by rfl) _) (se_var fo.eo (by rfl) (by rfl)) ses_nil))) (se_var fo.eo (by rfl) (by rfl))) (se_cmp G (by rfl) (se_var fo.eo (by rfl) (by rfl)) (se_var fo.eo (by rfl) (by rfl))))) sss_nil))))))
end
end Mine
end
open PySem PySem.W PyProof.Rows PySem.SeqAt
set_option Elab.async false
set_option maxRecDepth 100000
set_option maxHeartbeats 4000000
namespace Mine
theorem fill2 : PySem.Challenge.rw_pb0237_04 = PySem.Challenge.rw_pb0237_04 ∧ K4 = K4 := by
  k_fill
  exact ⟨rfl, rfl⟩
noncomputable def StatOk (K : Frag) (p : Addr × AO) : Prop := match p.2 with
  | .tup xs => ∃ ob vs, K.lookup p.1 = some ob ∧ ob.cls = .type "tuple" ∧ (∃ n, ob.data = .seq (vs : List Value).toArray n) ∧ Vals vs xs
  | .list false xs => ∃ vs n, K.lookup p.1 = some (listOf (vs : List Value).toArray n) ∧ Vals vs xs ∧ xs.length ≤ 1000000
  | _ => False
theorem lookup_mem {α : Type} : ∀ {l : List (Addr × α)} {a : Addr} {o : α}, l.lookup a = some o → (a, o) ∈ l
  | (k, v) :: r, a, o, h => by
    rw [List.lookup_cons] at h
    cases hb : a == k with
    | true => rw [hb] at h; cases h; rw [beq_iff_eq.mp hb]; exact List.mem_cons_self
    | false => rw [hb] at h; exact List.mem_cons_of_mem _ (lookup_mem h)
theorem stat_ok {κ : Kx} (O : κ.Ok) {l : List (Addr × AO)} (h : ∀ p ∈ l, StatOk κ.K p) (a : Addr) (o : AO) (e : l.lookup a = some o) : (∃ ob, κ.base.get? a = some ob) ∧ ∀ σ h, κ.base.StaysIn h → Sits κ σ h a o := by
  have z := h _ (lookup_mem e)
  unfold StatOk at z
  split at z
  · rename_i xs he
    dsimp only at he z
    subst he
    obtain ⟨ob, vs, h1, h2, ⟨n, h3⟩, h4⟩ := z
    exact ⟨⟨_, O.X _ _ h1⟩, fun σ h st => ⟨vs, ⟨ob, st _ _ (O.X _ _ h1), h2, n, h3⟩, h4⟩⟩
  · rename_i xs he
    dsimp only at he z
    subst he
    obtain ⟨vs, n, h1, h2, h3⟩ := z
    exact ⟨⟨_, O.X _ _ h1⟩, fun σ h st => ⟨vs, n, st _ _ (O.X _ _ h1), h2, (fun h => by cases h), h3⟩⟩
  · exact z.elim
theorem stat_still {K : Frag} {l : List (Addr × AO)} (h : ∀ p ∈ l, StatOk K p) (a : Addr) (o : AO) (e : l.lookup a = some o) : (∃ xs, o = .list false xs) ∨ ∃ xs, o = .tup xs := by
  have z := h _ (lookup_mem e)
  unfold StatOk at z
  split at z
  · rename_i xs he; exact .inr ⟨xs, he⟩
  · rename_i xs he; exact .inl ⟨xs, he⟩
  · exact z.elim
section
variable {w : World} {p : Program} {loose : List PySem.Str} {mean : ExcName → Option Value} {mg mb : PySem.Str → Option Value} {base : Heap}
theorem stat_one {K : Frag} {a : Addr} {xs : List V} {ob : Obj} {vs : List Value} {n : Nat} (h1 : K.lookup a = some ob) (h2 : ob.cls = .type "tuple") (h3 : ob.data = .seq vs.toArray n) (h4 : Vals vs xs) : StatOk K (a, .tup xs) := ⟨ob, vs, h1, h2, ⟨n, h3⟩, h4⟩
theorem l1statOk : ∀ q ∈ l1stat, StatOk (K4 w.params) q := by
  repeat' (first | exact List.forall_mem_nil _ | refine List.forall_mem_cons.mpr ⟨?_, ?_⟩)
  all_goals first
    | (refine' stat_one ?h1 ?h2 ?h3 ?h4
       case h1 => k_is
       case h2 => rfl
       case h3 => rfl
       case h4 => repeat (first | exact .nil | refine .cons (by constructor) ?_))
    | (refine' stat_two ?h1 ?h2 ?h3
       case h1 => k_is
       case h2 => repeat (first | exact .nil | refine .cons (by constructor) ?_)
       case h3 => decide)
theorem l1cls : clsOk (K4 w.params) 166 l1names l1meths = true := by
  kernel_rfl
theorem ok1 {pp : Arguments} {bb : List PySem.Stmt} {sc : Scope} (X : (K4 w.params).In base) (T : Top p loose mean mg mb base) : (kx1 w p loose mean mg mb base (tkP pp bb sc)).Ok :=
  ⟨X, T, tk_keep, tk_at⟩
theorem gr1 {pp : Arguments} {bb : List PySem.Stmt} {sc : Scope} (X : (K4 w.params).In base) (T : Top p loose mean mg mb base)
    (hargs : ∀ nm q cl dc pm c ct v, bindArgs (fnX nm q pp bb sc cl .none .none dc pm none (.ref c) ct) ⟨[v], []⟩ = pure [(("limit" : PySem.Str), v)])
    (hok : cloOk sc.names takeVs = true) (hloc : sc.names.lookup ("limit" : PySem.Str) = some NameKind.local) (hco : sc.isCoroutine = false) (hgen : sc.isGenerator = false) (hkd : sc.kind = .function)
    (hder : ∀ Γ' n, GOk (kx1 w p loose mean mg mb base (tkP pp bb sc)).bare Γ' l1meths n → ∀ nm q cl dc pm c ct L f vars, Fo (kx1 w p loose mean mg mb base (tkP pp bb sc)).bare (cloEnv (fnX nm q pp bb sc cl .none .none dc pm none (.ref c) ct) L f) ⟨sc.names, takeVs⟩ vars →
      SSs (kx1 w p loose mean mg mb base (tkP pp bb sc)).bare n (cloEnv (fnX nm q pp bb sc cl .none .none dc pm none (.ref c) ct) L f) vars bb (wpSs Γ' takeB)) :
    ∀ n, GOk (kx1 w p loose mean mg mb base (tkP pp bb sc)) (P1.gx n) l1meths n := by
  have O : (kx1 w p loose mean mg mb base (tkP pp bb sc)).Ok := ok1 X T
  refine gok_all ⟨O, stat_ok O l1statOk, stat_still (l1statOk (w := w)), l1cls, fun i p h => ?_, take_ok (C := 166) rfl O l1cls hargs hok hloc hco hgen hkd hder, tk_keeper⟩ fun f te h => ?_
  · show ((l1meths[i]?).map (·.2)).getD 0 = p.2
    rw [h]; rfl
  have key : ∀ q ∈ l1tab, FnOk (kx1 w p loose mean mg mb base (tkP pp bb sc)) P1 l1meths q.1 := by
    repeat' (first | exact List.forall_mem_nil _ | refine List.forall_mem_cons.mpr ⟨?_, ?_⟩)
    · exact ok_least_from rfl
    · exact ok_init rfl
    · exact ok_need rfl
    · exact ok_failed rfl
    · exact ok_found rfl
    · exact ok_read_next rfl
    · exact ok_write rfl
    · exact ok_chosen rfl
    · exact ok_rewrite rfl
    · exact ok_delete rfl
    · exact ok_law_swept rfl
    · exact ok_law_emptied rfl
    · exact ok_law_met rfl
    · exact ok_law_met_due rfl
    · exact ok_law_right rfl
    · exact cls_enter rfl rfl (by show makesIn (K4 w.params) _ = true; k_is) (by show findIn (K4 w.params) _ _ = _; k_is) (by show typeIn (K4 w.params) _ = _; k_is)
  exact key _ (lookup_mem h)
end
theorem pure1 : ∀ f F, f ∉ F → wpSs (P1.gx 6) b_law (fun fl _ _ => fl = .ret (.bool true)) (none :: some (.ref f) :: List.replicate (l1vs.length - 2) none) (sto0 f F) := by
  exact fun f F _ => law_pure (Sto.set_self _ _ _)
theorem fin1 {w : World} {p : Program} {loose : List PySem.Str} {mean : ExcName → Option Value} {mg mb : PySem.Str → Option Value} {base : Heap} {pp : Arguments} {bb : List PySem.Stmt} {sc : Scope} {s : Shared} {L : Addr} {m : PySem.Str → Option Value} {news : List (Addr × Obj)} {A : Around} {E : Value → Shared → Prop} {R : Flow → Shared → Prop}
    (F : Fr base L s.heap m) (N : News base L s.heap news) {f cp cc lp lc c ct0 : Addr} {nm q : PySem.Str} {dc pm ct : Value} {o2 o3 oc o7 : Obj} {us : List Value} {vc : Array Value} {ks : List Int} {t tq : Tok} {n n' : Nat}
    (m1 : (f, fnMade nm q pp bb sc [("place", cp), ("cells", cc)] dc pm c ct) ∈ news) (m2 : (cp, o2) ∈ news) (d2 : o2.data = .cell (some (.ref lp))) (m3 : (cc, o3) ∈ news) (d3 : o3.data = .cell (some (.ref lc)))
    (m4 : (lp, listOf #[.int 0 t] n) ∈ news) (m5 : (lc, listOf us.toArray n') ∈ news) (m6 : (c, oc) ∈ news) (d6 : oc.data = .fields vc) (d6' : vc[1]? = some (.str q tq)) (m7 : (ct0, o7) ∈ news) (d7 : o7.data = .cell (some (.ref f)))
    {env : Env} {rest : List PySem.Stmt} (hkd' : env.scope.kind = .function) (hgl : env.globals = mainGlobals) (hbu : env.builtins = builtinsNs) (hL : env.locals = L) (hc : env.cells.lookup ("take" : PySem.Str) = some ct0)
    (X : (K4 w.params).In base) (T : Top p loose mean mg mb base)
    (hI : IntsAre us ks) (h0 : 0 < ks.length) (h1 : ks.length ≤ 63) (hnd : [f, cp, cc, lp, lc, c].Nodup) (h7 : ct0 ∉ [f, cp, cc, lp, lc, c])
    (hok' : frameOk env.scope.names l1vs = true) (r : Room A 6)
    (hargs : ∀ nm q cl dc pm c ct v, bindArgs (fnX nm q pp bb sc cl .none .none dc pm none (.ref c) ct) ⟨[v], []⟩ = pure [(("limit" : PySem.Str), v)])
    (hok : cloOk sc.names takeVs = true) (hloc : sc.names.lookup ("limit" : PySem.Str) = some NameKind.local) (hco : sc.isCoroutine = false) (hgen : sc.isGenerator = false) (hkd : sc.kind = .function)
    (hder : ∀ Γ' n, GOk (kx1 w p loose mean mg mb base (tkP pp bb sc)).bare Γ' l1meths n → ∀ nm q cl dc pm c ct L f vars, Fo (kx1 w p loose mean mg mb base (tkP pp bb sc)).bare (cloEnv (fnX nm q pp bb sc cl .none .none dc pm none (.ref c) ct) L f) ⟨sc.names, takeVs⟩ vars →
      SSs (kx1 w p loose mean mg mb base (tkP pp bb sc)).bare n (cloEnv (fnX nm q pp bb sc cl .none .none dc pm none (.ref c) ct) L f) vars bb (wpSs Γ' takeB))
    (hS : GOk (kx1 w p loose mean mg mb base (tkP pp bb sc)) (P1.gx 6) l1meths 6 → ∀ vars, Fo (kx1 w p loose mean mg mb base (tkP pp bb sc)) env ⟨env.scope.names, l1vs⟩ vars → SSs (kx1 w p loose mean mg mb base (tkP pp bb sc)) 6 env vars rest (wpSs (P1.gx 6) b_law))
    (hR : ∀ s', (∃ h tk, s' = { s with heap := h, toks := tk }) → base.StaysIn s'.heap → (∀ b o, b ≠ L → b ∉ [f, cp, cc, lp, lc, c, ct0] → s.heap.get? b = some o → s'.heap.get? b = some o) → R (.ret (.bool true)) s') :
    wpAny (model PySem.Challenge.pw_pb0237_04 w) A (execs rest env) R E s := by
  have Gr := gr1 X T hargs hok hloc hco hgen hkd hder
  refine law_close (κ := kx1 w p loose mean mg mb base (tkP pp bb sc)) (vs := l1vs) (pb := b_law) Gr rfl F N m1 m2 d2 m3 d3 m4 m5 hI h0 h1 hnd m6 d6 d6' m7 d7 h7 hkd' hgl hbu hL hc hok' (fun i n e => ?_) rfl (by decide) (hS (Gr 6)) pure1 r hR
  match i, e with
  | 1, e => cases e; exact ⟨rfl, rfl⟩
  | 0, e => cases e
  | 2, e => cases e
  | 3, e => cases e
  | 4, e => cases e
  | 5, e => cases e
  | 6, e => cases e
  | 7, e => cases e
  | 8, e => cases e
  | i + 9, e => simp at e
noncomputable def Stop (p : Prop) : Prop := p
theorem stop_here {M : Model} {A : Around} {p1 pos : Pos} {e : PySem.Expr} {rest : List Stmt} {env : Env} {Q : Flow → Shared → Prop} {E : Value → Shared → Prop} {s : Shared} (h : Stop (wpAny M A (execs (.Assign [.Name "written" p1] e pos :: rest) env) Q E s)) :
  wpAny M A (execs (.Assign [.Name "written" p1] e pos :: rest) env) Q E s := h
end Mine
open Mine
theorem PySem.Challenge.cw_pb0237_04_holds : PySem.Challenge.rw_pb0237_04.Holds :=
  hd1 (by
  k_go0
  all_goals try k_fold
  repeat' (first | (with_reducible refine stop_here ?_) | (k_unfold; (try dsimp only)) | (k_end; wrow_close) | walk1 | (dsimp only; walk1) | (leave1; walk_say "STEP leave1"; try dsimp only) | fail "no step")
  all_goals unfold Stop
  all_goals (
    refine' fin1 (by assumption) (by assumption) ?m1 ?m2 ?d2 ?m3 ?d3 ?m4 ?m5 ?m6 ?d6 ?d6' ?m7 ?d7 ?kd ?gl ?bu ?L ?c (by assumption) (by assumption) ?hI ?h0 ?h1 ?hnd ?h7 ?ok ?r ?ta ?tb ?tc ?td ?te ?tf ?tder ?S ?R
    case m1 => exact .head _
    case c => rfl
    case m2 => repeat (first | exact .head _ | refine .tail _ ?_)
    case d2 => assumption
    case m3 => repeat (first | exact .head _ | refine .tail _ ?_)
    case d3 => assumption
    case m4 => repeat (first | exact .head _ | refine .tail _ ?_)
    case m5 => repeat (first | exact .head _ | refine .tail _ ?_)
    case m6 => repeat (first | exact .head _ | refine .tail _ ?_)
    case d6 => assumption
    case d6' => assumption
    case m7 => repeat (first | exact .head _ | refine .tail _ ?_)
    case d7 => assumption
    case kd => rfl
    case gl => rfl
    case bu => rfl
    case L => rfl
    case hI => first | assumption | exact .cons _ _ .nil
    case h0 => first | decide | exact List.length_pos_iff.mpr (by simp_all)
    case h1 => first | decide | omega
    case hnd => exact nd6 (by omega) (by omega) (by omega) (by omega) (by omega)
    case h7 => exact nd7 (by omega) (by omega) (by omega) (by omega) (by omega) (by omega)
    case ok => kernel_rfl
    case r => exact ⟨rfl, Nat.le_of_ble_eq_true rfl, Nat.le_of_ble_eq_true rfl⟩
    case ta => exact fun _ _ _ _ _ _ _ _ => rfl
    case tb => decide +kernel
    case tc => rfl
    case td => rfl
    case te => rfl
    case tf => rfl
    case tder => exact fun Γ' n G nm q cl dc pm c ct L f vars fo => (sss_cons (ss_name G fo (by rfl) (by rfl) (se_sub G (fun _ _ => rfl) (se_var fo.eo (by rfl) (by rfl)) se_int)) (sss_cons (ss_subl G (by rfl) (se_add G (se_var fo.eo (by rfl) (by rfl)) se_int) (se_var fo.eo (by rfl) (by rfl)) se_int) (sss_cons (ss_name G fo (by rfl) (by rfl) (se_ar (by rfl) (se_var fo.eo (by rfl) (by rfl)) (se_bi (f := .len) G fo.eo (by rfl) hb_len (by rfl) (se_var fo.eo (by rfl) (by rfl))))) (sss_cons (ss_ret (se_ar (by rfl) (se_add G (se_ar (by rfl) (se_sub G (fun _ _ => rfl) (se_var fo.eo (by rfl) (by rfl)) (se_ar (by rfl) (se_var fo.eo (by rfl) (by rfl)) (se_bi (f := .len) G fo.eo (by rfl) hb_len (by rfl) (se_var fo.eo (by rfl) (by rfl))))) (se_ar (by rfl) se_int (se_var fo.eo (by rfl) (by rfl)))) (se_ar (by rfl) (se_var fo.eo (by rfl) (by rfl)) (se_add G (se_ar (by rfl) se_int (se_var fo.eo (by rfl) (by rfl))) se_int))) (se_var fo.eo (by rfl) (by rfl)))) sss_nil))))
    case S => exact fun G vars fo => (sss_cons (ss_name G fo (by rfl) (by rfl) (se_dict G (by rfl) (by rfl) (by simp) (by decide) (sds_cons se_int se_bytes (sds_cons se_int se_bytes (sds_cons se_int se_bytes sds_nil))))) (sss_cons (ss_if (sc_bool (sa_or (sc_not (sc_val G (fun _ => rfl) (se_fn G fo.eo (by rfl) hg__law_right (by rfl) hk__law_right (by rfl) (ses_cons (star_cons (by rfl) _) (se_var fo.eo (by rfl) (by rfl)) (ses_cons (star_cons (by rfl) _) (se_list G (by decide) (ses_cons (star_cons (by rfl) _) se_int (ses_cons (star_cons (by rfl) _) se_int (ses_cons (star_cons (by rfl) _) se_int (ses_cons (star_cons (by rfl) _) se_int ses_nil))))) ses_nil))))) (sa_or_one (sc_cmp G (by rfl) (se_fn G fo.eo (by rfl) hg__law_met (by rfl) hk__law_met (by rfl) (ses_cons (star_cons (by rfl) _) (se_bi (f := .dict) G fo.eo (by rfl) hb_dict (by rfl) (se_var fo.eo (by rfl) (by rfl))) (ses_cons (star_cons (by rfl) _) (se_glob G fo.eo (by rfl) hg__law_DEEDS (by rfl)) ses_nil))) (se_bi (f := .list) G fo.eo (by rfl) hb_list (by rfl) (se_glob G fo.eo (by rfl) hg__law_TOLD (by rfl))))))) (sss_cons (ss_ret se_bool) sss_nil) sss_nil) (sss_cons (ss_if (sc_cmp G (by rfl) (se_fn G fo.eo (by rfl) hg__law_met_due (by rfl) hk__law_met_due (by rfl) (ses_cons (star_cons (by rfl) _) (se_var fo.eo (by rfl) (by rfl)) (ses_cons (star_cons (by rfl) _) (se_glob G fo.eo (by rfl) hg__law_DEEDS (by rfl)) ses_nil))) (se_tup G (by decide) (ses_cons (star_cons (by rfl) _) (se_bi (f := .list) G fo.eo (by rfl) hb_list (by rfl) (se_glob G fo.eo (by rfl) hg__law_TOLD (by rfl))) (ses_cons (star_cons (by rfl) _) (se_list G (by decide) (ses_cons (star_cons (by rfl) _) se_int (ses_cons (star_cons (by rfl) _) se_int (ses_cons (star_cons (by rfl) _) se_int ses_nil)))) ses_nil)))) (sss_cons (ss_ret se_bool) sss_nil) sss_nil) (sss_cons (ss_name G fo (by rfl) (by rfl) (se_dict0 G)) (sss_cons (ss_for G fo (fun _ => rfl) (se_bi (f := .range) G fo.eo (by rfl) hb_range (by rfl) (se_take G (by decide) fo (by rfl) (by rfl) (by rfl) se_int)) (tt_var G fo (by rfl)) (sss_cons (ss_sub G (by rfl) (se_bi (f := .bytes) G fo.eo (by rfl) hb_bytes (by rfl) (se_comp G fo (by rfl) (by rfl) (fun _ => rfl) (se_bi (f := .range) G fo.eo (by rfl) hb_range (by rfl) (se_take G (by decide) fo (by rfl) (by rfl) (by rfl) se_int)) (fun C fo7 => (se_take G (by decide) fo7 (by rfl) (by rfl) (by rfl) se_int)) (fun C fo7 => st_nil))) (se_var fo.eo (by rfl) (by rfl)) (se_add G se_int (se_take G (by decide) fo (by rfl) (by rfl) (by rfl) se_int))) sss_nil)) (sss_cons (ss_if (sc_not (sc_val G (fun _ => rfl) (se_fn G fo.eo (by rfl) hg__law_right (by rfl) hk__law_right (by rfl) (ses_cons (star_cons (by rfl) _) (se_var fo.eo (by rfl) (by rfl)) (ses_cons (star_cons (by rfl) _) (se_comp G fo (by rfl) (by rfl) (fun _ => rfl) (se_bi (f := .range) G fo.eo (by rfl) hb_range (by rfl) (se_take G (by decide) fo (by rfl) (by rfl) (by rfl) se_int)) (fun C fo8 => (se_add G se_int (se_take G (by decide) fo8 (by rfl) (by rfl) (by rfl) se_int))) (fun C fo8 => st_nil)) ses_nil))))) (sss_cons (ss_ret se_bool) sss_nil) sss_nil) (sss_cons (ss_comp G fo (by rfl) (by rfl) (by rfl) (by rfl) (fun _ => rfl) (se_bi (f := .range) G fo.eo (by rfl) hb_range (by rfl) (se_take G (by decide) fo (by rfl) (by rfl) (by rfl) se_int)) (fun C fo9 => (se_tup G (by decide) (ses_cons (star_cons (by rfl) _) (se_sub G (fun _ _ => rfl) (se_tup G (by decide) (ses_cons (star_cons (by rfl) _) se_str (ses_cons (star_cons (by rfl) _) se_str (ses_cons (star_cons (by rfl) _) se_str (ses_cons (star_cons (by rfl) _) se_str ses_nil))))) (se_take G (by decide) fo9 (by rfl) (by rfl) (by rfl) se_int)) (ses_cons (star_cons (by rfl) _) (se_add G se_int (se_take G (by decide) fo9 (by rfl) (by rfl) (by rfl) se_int)) ses_nil)))) (fun C fo9 => st_nil)) (sss_cons (ss_name G fo (by rfl) (by rfl) (se_bi (f := .dict) G fo.eo (by rfl) hb_dict (by rfl) (se_var fo.eo (by rfl) (by rfl)))) (sss_cons (ss_tup (by rfl) (by rfl) (se_fn G fo.eo (by rfl) hg__law_met_due (by rfl) hk__law_met_due (by rfl) (ses_cons (star_cons (by rfl) _) (se_var fo.eo (by rfl) (by rfl)) (ses_cons (star_cons (by rfl) _) (se_var fo.eo (by rfl) (by rfl)) ses_nil))) (tt_tup G (tts_cons (by rfl) (tt_var G fo (by rfl)) (tts_cons (by rfl) (tt_var G fo (by rfl)) tts_nil)))) (sss_cons (ss_ret (se_and G (se_cmp G (by rfl) (se_fn G fo.eo (by rfl) hg__law_met (by rfl) hk__law_met (by rfl) (ses_cons (star_cons (by rfl) _) (se_var fo.eo (by rfl) (by rfl)) (ses_cons (star_cons (by rfl) _) (se_var fo.eo (by rfl) (by rfl)) ses_nil))) (se_var fo.eo (by rfl) (by rfl))) (se_cmp G (by rfl) (se_bi (f := .sorted) G fo.eo (by rfl) hb_sorted (by rfl) (se_var fo.eo (by rfl) (by rfl))) (se_var fo.eo (by rfl) (by rfl))))) sss_nil))))))))))
    case R =>
      rintro s' ⟨h', tk', rfl⟩ st kp
      refine ⟨⟨.inl ⟨_, _, [], rfl, raisesW_false (by wrow_none_raised), .bool true, (by wrow_post), unshared_nil⟩, st, rfl, (by assumption)⟩, ⟨⟨_, kp 194 _ (Nat.ne_of_lt (by omega)) (nd8 (by omega) (by omega) (by omega) (by omega) (by omega) (by omega) (by omega)) ((by assumption : News _ _ _ _) (194, tabObj _) (by repeat (first | exact .head _ | refine .tail _ ?_))).1⟩, trivial⟩⟩))
