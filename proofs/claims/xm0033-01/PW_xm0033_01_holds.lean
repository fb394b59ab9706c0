import PyProof.Rows.All
import Wide.All
import OpenK.AllK
import Wide.FinOn
import PySem.Challenge.RW_xm0033_01
open PySem PySem.W PyProof.Rows
set_option Elab.async false
set_option maxRecDepth 100000
set_option maxHeartbeats 0
namespace Mine
section
open PySem PySem.W PyProof.Rows PySem.Calls
def view : Program := PySem.W.view PySem.Challenge.pw_xm0033_01 [1, 2, 3, 4, 5, 6, 7, 8, 9, 11, 12, 13, 14, 15, 16, 17, 18, 19, 20, 21, 23, 24, 25, 26, 27, 28, 29, 30, 31, 33, 34, 35, 36, 37, 38, 39]
theorem said : PySem.Challenge.rw_xm0033_01.wellSaid = true := by
  unfold OpenLaw.wellSaid OpenRow.wellSaid OpenRow.partSaid looksOpen
  repeat' (with_reducible refine look_both ?_ ?_)
  all_goals decide +kernel
section
local macro_rules | `(tactic| o_head $_) => `(tactic| skip)
/-- lays the objects that the walk knows (k0.heap_1); says nothing of its own -/
theorem k0 : ∃ p : Prop, p → PySem.Challenge.rw_xm0033_01.row.Holds := by
  refine' ⟨_, fun walk => ?main⟩
  case main =>
    k_head
    exact walk
end
abbrev asP : List Addr := [2, 3, 15, 18, 23, 24, 25, 27, 28, 30, 31, 32, 33, 34, 35, 38, 40, 41, 43, 44, 45, 47, 48, 50, 51, 52, 54, 55, 57, 58, 59, 61, 62, 64, 65, 66, 68, 69, 71, 72, 73, 75, 76, 78, 79, 80, 82, 83, 85, 86, 87, 88, 90, 91, 93, 94, 95, 97, 98, 100, 101, 102, 104, 105, 107, 108, 109, 111, 112, 114, 115, 116, 118, 119, 121, 122, 123, 125, 126, 128, 129, 130, 132, 133, 135, 136, 137, 139, 140, 142, 143, 144, 146, 147, 149, 150, 151, 153, 154, 156, 157, 158, 160, 161, 163, 164, 165, 167, 168, 170, 171, 172, 174, 175, 177, 178, 179, 181, 182, 184, 185, 186, 188, 189, 191, 192, 193, 195, 196, 198, 199, 200, 202, 203, 205, 206, 207, 209, 210, 212, 213, 214, 216, 217, 219, 220, 221, 223, 224, 226, 227, 228, 230, 231, 233, 234, 235, 238, 239, 240, 242, 243, 245, 246, 247, 249, 250, 252, 253, 254, 257, 258]
theorem asP_eq (P : Params) : asP = (Mine.k0.heap_1 P).map (·.1) := by kernel_rfl
noncomputable def kk (P : Params) (i : Nat) : Obj := ((Mine.k0.heap_1 P).lookup i).getD default
def etup : Obj := { cls := .type "tuple", data := .seq #[] }
def efld : Obj := { cls := .none, data := .fields #[] }
def tmpl (o : Obj) : Obj := match o.data with
  | .func f => { cls := .none, data := .func { name := f.name, qualname := f.qualname, params := f.params, body := f.body, scope := f.scope, globals := 0, closure := [], defaults := .none, kwdefaults := .none } }
  | _ => default
def cut3 (o : Obj) (k : Nat) (nm : Str) (t : Nat) : Obj := match o.data with
  | .dict es _ => { o with data := .dict ((match es.toList.take k with | e :: r => { e with val := .str nm t } :: r | [] => []).toArray) k }
  | _ => default
def row3 (l r : Nat) : List Value := [.int l 0, .int 0 0, .ref r]
def tabL : List (Nat × Nat) := [(3, 21), (9, 43), (15, 50), (25, 57), (40, 64), (46, 71), (48, 78), (55, 85), (62, 93), (64, 100), (67, 107), (70, 114), (72, 121), (74, 128), (76, 135), (84, 142), (98, 149), (101, 156), (105, 163), (107, 170), (111, 177), (116, 184), (118, 191), (124, 198), (130, 205), (135, 212), (151, 219), (155, 226), (157, 233), (159, 238), (173, 245), (178, 252), (183, 257)]
def tab (k : Nat) : Obj := { cls := .none, data := .fields ((tabL.take k).flatMap fun x => row3 x.1 x.2).toArray }
def codeO (nm : String) (t l tu ta u : Nat) : Obj := { cls := .type "code", data := .fields #[.str (Str.ofString nm) t, .str (Str.ofString nm) (t + 1), .str (Str.ofString "/claim/cut.py") (t + 2), .int l 0, .int 0 0, .int 0 0, .int 0 0, .int 0 0, .ref tu, .bool false, .int 181 0, .ref ta, .none, .none, .none, .none, .int u 0, .int l 0, .str (Str.ofString "/claim/cut.py") (u + 1)] }
def frameO (c ns : Nat) (nm : String) (t : Nat) : Obj := { cls := .type "frame", slots := #[some (.ref c), some (.ref 3), some (.ref ns), none, some (.str (Str.ofString nm) t), none, some (.ref 0)] }
def entO (P : Params) (k : String) (t : Nat) (v : Value) : DictEntry := { hash := PyData.keyHash P (Str.ofString k), key := .str (Str.ofString k) t, val := v }
noncomputable def ov (P : Params) : List (Nat × Obj) := [
  (0, boot_o_0 P),
  (1, boot_o_1 P),
  (4, boot_o_4 P),
  (5, boot_o_5 P),
  (6, boot_o_6 P),
  (7, boot_o_7 P),
  (8, boot_o_8 P),
  (9, boot_o_9 P),
  (10, boot_o_10 P),
  (11, etup),
  (12, tab 33),
  (13, codeO "<module>" 182 1 11 12 185),
  (14, frameO 13 3 "__main__" 164),
  (16, { cls := .type "builtin_function_or_method", data := .fields #[.builtin "type.__prepare__", .type "type"] }),
  (17, { cls := .type "dict", data := .dict #[entO P "__module__" 198 (.str (Str.ofString "basicplus.values") 187), entO P "__qualname__" 200 (.str (Str.ofString "BasicError") 199), entO P "__firstlineno__" 202 (.int 3 201), entO P "__init__" 213 (.ref 31), entO P "__static_attributes__" 216 (.ref 32), entO P "__classcell__" 217 (.ref 18)] 6 }),
  (19, etup),
  (20, { cls := .none, data := .fields #[.int 5 0, .int 4 0, .ref 30] }),
  (21, codeO "BasicError" 193 3 19 20 196),
  (22, frameO 21 17 "basicplus.values" 187),
  (26, efld),
  (29, tmpl (kk P 31)),
  (36, { cls := .type "super", data := .fields #[.ref 34, .ref 34, .ref 34] }),
  (37, { cls := .type "builtin_function_or_method", data := .fields #[.builtin "object.__init_subclass__", .ref 34] }),
  (39, efld),
  (42, tmpl (kk P 44)),
  (46, efld),
  (49, tmpl (kk P 51)),
  (53, efld),
  (56, tmpl (kk P 58)),
  (60, efld),
  (63, tmpl (kk P 65)),
  (67, efld),
  (70, tmpl (kk P 72)),
  (74, efld),
  (77, tmpl (kk P 79)),
  (81, efld),
  (84, tmpl (kk P 86)),
  (89, efld),
  (92, tmpl (kk P 94)),
  (96, efld),
  (99, tmpl (kk P 101)),
  (103, efld),
  (106, tmpl (kk P 108)),
  (110, efld),
  (113, tmpl (kk P 115)),
  (117, efld),
  (120, tmpl (kk P 122)),
  (124, efld),
  (127, tmpl (kk P 129)),
  (131, efld),
  (134, tmpl (kk P 136)),
  (138, efld),
  (141, tmpl (kk P 143)),
  (145, efld),
  (148, tmpl (kk P 150)),
  (152, efld),
  (155, tmpl (kk P 157)),
  (159, efld),
  (162, tmpl (kk P 164)),
  (166, efld),
  (169, tmpl (kk P 171)),
  (173, efld),
  (176, tmpl (kk P 178)),
  (180, efld),
  (183, tmpl (kk P 185)),
  (187, efld),
  (190, tmpl (kk P 192)),
  (194, efld),
  (197, tmpl (kk P 199)),
  (201, efld),
  (204, tmpl (kk P 206)),
  (208, efld),
  (211, tmpl (kk P 213)),
  (215, efld),
  (218, tmpl (kk P 220)),
  (222, efld),
  (225, tmpl (kk P 227)),
  (229, efld),
  (232, tmpl (kk P 234)),
  (236, efld),
  (237, tmpl (kk P 239)),
  (241, efld),
  (244, tmpl (kk P 246)),
  (248, efld),
  (251, tmpl (kk P 253)),
  (255, efld),
  (256, tmpl (kk P 258))]
noncomputable def ob (P : Params) (i : Nat) : Obj := match (ov P).lookup i with | some o => o | none => kk P i
noncomputable def stAT (P : Params) : BT := (.node (ob P 0) (.node (ob P 1) (.node (boot_o_3 P) (.node (ob P 7) .nil .nil) (.node (ob P 11) .nil .nil)) (.node (ob P 5) (.node (ob P 9) .nil .nil) (.node (ob P 13) .nil .nil))) (.node (boot_o_2 P) (.node (ob P 4) (.node (ob P 8) .nil .nil) (.node (efld) .nil .nil)) (.node (ob P 6) (.node (ob P 10) .nil .nil) (.node (ob P 14) .nil .nil))))
noncomputable abbrev stA (w : World) (os : OsState) : SharedT := { tree := stAT w.params, n := 15, life := { }, gens := { toList := [] }, drawn := { }, toks := 187, os := os }
noncomputable def stXT (P : Params) : BT := (.node (ob P 0) (.node (ob P 1) (.node (cut3 (kk P 3) 11 (Str.ofString "basicplus.values") 187) (.node (ob P 7) (.node (ob P 15) (.node (ob P 31) .nil .nil) .nil) (.node (ob P 23) .nil .nil)) (.node (ob P 11) (.node (ob P 19) (.node (ob P 35) .nil .nil) .nil) (.node (ob P 27) .nil .nil))) (.node (ob P 5) (.node (ob P 9) (.node (ob P 17) (.node (ob P 33) .nil .nil) .nil) (.node (ob P 25) .nil .nil)) (.node (ob P 13) (.node (ob P 21) (.node (ob P 37) .nil .nil) .nil) (.node (ob P 29) .nil .nil)))) (.node (ob P 2) (.node (ob P 4) (.node (ob P 8) (.node (ob P 16) (.node (ob P 32) .nil .nil) .nil) (.node (ob P 24) .nil .nil)) (.node (tab 1) (.node (ob P 20) (.node (ob P 36) .nil .nil) .nil) (.node (ob P 28) .nil .nil))) (.node (ob P 6) (.node (ob P 10) (.node (ob P 18) (.node (ob P 34) .nil .nil) .nil) (.node (ob P 26) .nil .nil)) (.node (ob P 14) (.node (ob P 22) .nil .nil) (.node (ob P 30) .nil .nil)))))
noncomputable abbrev stX (w : World) (os : OsState) : SharedT := { tree := stXT w.params, n := 38, life := { }, gens := { toList := [] }, drawn := { }, toks := 225, os := os }
noncomputable def stBT (P : Params) : BT := (.node (ob P 0) (.node (ob P 1) (.node (cut3 (kk P 3) 15 (Str.ofString "basicplus.values") 187) (.node (ob P 7) (.node (ob P 15) (.node (ob P 31) (.node (ob P 63) .nil .nil) .nil) (.node (ob P 47) .nil .nil)) (.node (ob P 23) (.node (ob P 39) .nil .nil) (.node (ob P 55) .nil .nil))) (.node (ob P 11) (.node (ob P 19) (.node (ob P 35) .nil .nil) (.node (ob P 51) .nil .nil)) (.node (ob P 27) (.node (ob P 43) .nil .nil) (.node (ob P 59) .nil .nil)))) (.node (ob P 5) (.node (ob P 9) (.node (ob P 17) (.node (ob P 33) (.node (ob P 65) .nil .nil) .nil) (.node (ob P 49) .nil .nil)) (.node (ob P 25) (.node (ob P 41) .nil .nil) (.node (ob P 57) .nil .nil))) (.node (ob P 13) (.node (ob P 21) (.node (ob P 37) .nil .nil) (.node (ob P 53) .nil .nil)) (.node (ob P 29) (.node (ob P 45) .nil .nil) (.node (ob P 61) .nil .nil))))) (.node (ob P 2) (.node (ob P 4) (.node (ob P 8) (.node (ob P 16) (.node (ob P 32) (.node (ob P 64) .nil .nil) .nil) (.node (ob P 48) .nil .nil)) (.node (ob P 24) (.node (ob P 40) .nil .nil) (.node (ob P 56) .nil .nil))) (.node (tab 5) (.node (ob P 20) (.node (ob P 36) .nil .nil) (.node (ob P 52) .nil .nil)) (.node (ob P 28) (.node (ob P 44) .nil .nil) (.node (ob P 60) .nil .nil)))) (.node (ob P 6) (.node (ob P 10) (.node (ob P 18) (.node (ob P 34) .nil .nil) (.node (ob P 50) .nil .nil)) (.node (ob P 26) (.node (ob P 42) .nil .nil) (.node (ob P 58) .nil .nil))) (.node (ob P 14) (.node (ob P 22) (.node (ob P 38) .nil .nil) (.node (ob P 54) .nil .nil)) (.node (ob P 30) (.node (ob P 46) .nil .nil) (.node (ob P 62) .nil .nil))))))
noncomputable abbrev stB (w : World) (os : OsState) : SharedT := { tree := stBT w.params, n := 66, life := { }, gens := { toList := [] }, drawn := { }, toks := 267, os := os }
noncomputable def stCT (P : Params) : BT := (.node (ob P 0) (.node (ob P 1) (.node (cut3 (kk P 3) 28 (Str.ofString "basicplus.decimals") 292) (.node (ob P 7) (.node (ob P 15) (.node (ob P 31) (.node (ob P 63) (.node (ob P 127) .nil .nil) .nil) (.node (ob P 95) .nil .nil)) (.node (ob P 47) (.node (ob P 79) (.node (ob P 143) .nil .nil) .nil) (.node (ob P 111) .nil .nil))) (.node (ob P 23) (.node (ob P 39) (.node (ob P 71) (.node (ob P 135) .nil .nil) .nil) (.node (ob P 103) .nil .nil)) (.node (ob P 55) (.node (ob P 87) .nil .nil) (.node (ob P 119) .nil .nil)))) (.node (ob P 11) (.node (ob P 19) (.node (ob P 35) (.node (ob P 67) (.node (ob P 131) .nil .nil) .nil) (.node (ob P 99) .nil .nil)) (.node (ob P 51) (.node (ob P 83) .nil .nil) (.node (ob P 115) .nil .nil))) (.node (ob P 27) (.node (ob P 43) (.node (ob P 75) (.node (ob P 139) .nil .nil) .nil) (.node (ob P 107) .nil .nil)) (.node (ob P 59) (.node (ob P 91) .nil .nil) (.node (ob P 123) .nil .nil))))) (.node (ob P 5) (.node (ob P 9) (.node (ob P 17) (.node (ob P 33) (.node (ob P 65) (.node (ob P 129) .nil .nil) .nil) (.node (ob P 97) .nil .nil)) (.node (ob P 49) (.node (ob P 81) .nil .nil) (.node (ob P 113) .nil .nil))) (.node (ob P 25) (.node (ob P 41) (.node (ob P 73) (.node (ob P 137) .nil .nil) .nil) (.node (ob P 105) .nil .nil)) (.node (ob P 57) (.node (ob P 89) .nil .nil) (.node (ob P 121) .nil .nil)))) (.node (ob P 13) (.node (ob P 21) (.node (ob P 37) (.node (ob P 69) (.node (ob P 133) .nil .nil) .nil) (.node (ob P 101) .nil .nil)) (.node (ob P 53) (.node (ob P 85) .nil .nil) (.node (ob P 117) .nil .nil))) (.node (ob P 29) (.node (ob P 45) (.node (ob P 77) (.node (ob P 141) .nil .nil) .nil) (.node (ob P 109) .nil .nil)) (.node (ob P 61) (.node (ob P 93) .nil .nil) (.node (ob P 125) .nil .nil)))))) (.node (ob P 2) (.node (ob P 4) (.node (ob P 8) (.node (ob P 16) (.node (ob P 32) (.node (ob P 64) (.node (ob P 128) .nil .nil) .nil) (.node (ob P 96) .nil .nil)) (.node (ob P 48) (.node (ob P 80) .nil .nil) (.node (ob P 112) .nil .nil))) (.node (ob P 24) (.node (ob P 40) (.node (ob P 72) (.node (ob P 136) .nil .nil) .nil) (.node (ob P 104) .nil .nil)) (.node (ob P 56) (.node (ob P 88) .nil .nil) (.node (ob P 120) .nil .nil)))) (.node (tab 16) (.node (ob P 20) (.node (ob P 36) (.node (ob P 68) (.node (ob P 132) .nil .nil) .nil) (.node (ob P 100) .nil .nil)) (.node (ob P 52) (.node (ob P 84) .nil .nil) (.node (ob P 116) .nil .nil))) (.node (ob P 28) (.node (ob P 44) (.node (ob P 76) (.node (ob P 140) .nil .nil) .nil) (.node (ob P 108) .nil .nil)) (.node (ob P 60) (.node (ob P 92) .nil .nil) (.node (ob P 124) .nil .nil))))) (.node (ob P 6) (.node (ob P 10) (.node (ob P 18) (.node (ob P 34) (.node (ob P 66) (.node (ob P 130) .nil .nil) .nil) (.node (ob P 98) .nil .nil)) (.node (ob P 50) (.node (ob P 82) .nil .nil) (.node (ob P 114) .nil .nil))) (.node (ob P 26) (.node (ob P 42) (.node (ob P 74) (.node (ob P 138) .nil .nil) .nil) (.node (ob P 106) .nil .nil)) (.node (ob P 58) (.node (ob P 90) .nil .nil) (.node (ob P 122) .nil .nil)))) (.node (ob P 14) (.node (ob P 22) (.node (ob P 38) (.node (ob P 70) (.node (ob P 134) .nil .nil) .nil) (.node (ob P 102) .nil .nil)) (.node (ob P 54) (.node (ob P 86) .nil .nil) (.node (ob P 118) .nil .nil))) (.node (ob P 30) (.node (ob P 46) (.node (ob P 78) (.node (ob P 142) .nil .nil) .nil) (.node (ob P 110) .nil .nil)) (.node (ob P 62) (.node (ob P 94) .nil .nil) (.node (ob P 126) .nil .nil)))))))
noncomputable abbrev stC (w : World) (os : OsState) : SharedT := { tree := stCT w.params, n := 144, life := { }, gens := { toList := [] }, drawn := { }, toks := 380, os := os }
noncomputable def stDT (P : Params) : BT := (.node (ob P 0) (.node (ob P 1) (.node (cut3 (kk P 3) 40 (Str.ofString "law_xm0033_01") 478) (.node (ob P 7) (.node (ob P 15) (.node (ob P 31) (.node (ob P 63) (.node (ob P 127) .nil .nil) (.node (ob P 191) .nil .nil)) (.node (ob P 95) (.node (ob P 159) .nil .nil) (.node (ob P 223) .nil .nil))) (.node (ob P 47) (.node (ob P 79) (.node (ob P 143) .nil .nil) (.node (ob P 207) .nil .nil)) (.node (ob P 111) (.node (ob P 175) .nil .nil) .nil))) (.node (ob P 23) (.node (ob P 39) (.node (ob P 71) (.node (ob P 135) .nil .nil) (.node (ob P 199) .nil .nil)) (.node (ob P 103) (.node (ob P 167) .nil .nil) .nil)) (.node (ob P 55) (.node (ob P 87) (.node (ob P 151) .nil .nil) (.node (ob P 215) .nil .nil)) (.node (ob P 119) (.node (ob P 183) .nil .nil) .nil)))) (.node (ob P 11) (.node (ob P 19) (.node (ob P 35) (.node (ob P 67) (.node (ob P 131) .nil .nil) (.node (ob P 195) .nil .nil)) (.node (ob P 99) (.node (ob P 163) .nil .nil) (.node (ob P 227) .nil .nil))) (.node (ob P 51) (.node (ob P 83) (.node (ob P 147) .nil .nil) (.node (ob P 211) .nil .nil)) (.node (ob P 115) (.node (ob P 179) .nil .nil) .nil))) (.node (ob P 27) (.node (ob P 43) (.node (ob P 75) (.node (ob P 139) .nil .nil) (.node (ob P 203) .nil .nil)) (.node (ob P 107) (.node (ob P 171) .nil .nil) .nil)) (.node (ob P 59) (.node (ob P 91) (.node (ob P 155) .nil .nil) (.node (ob P 219) .nil .nil)) (.node (ob P 123) (.node (ob P 187) .nil .nil) .nil))))) (.node (ob P 5) (.node (ob P 9) (.node (ob P 17) (.node (ob P 33) (.node (ob P 65) (.node (ob P 129) .nil .nil) (.node (ob P 193) .nil .nil)) (.node (ob P 97) (.node (ob P 161) .nil .nil) (.node (ob P 225) .nil .nil))) (.node (ob P 49) (.node (ob P 81) (.node (ob P 145) .nil .nil) (.node (ob P 209) .nil .nil)) (.node (ob P 113) (.node (ob P 177) .nil .nil) .nil))) (.node (ob P 25) (.node (ob P 41) (.node (ob P 73) (.node (ob P 137) .nil .nil) (.node (ob P 201) .nil .nil)) (.node (ob P 105) (.node (ob P 169) .nil .nil) .nil)) (.node (ob P 57) (.node (ob P 89) (.node (ob P 153) .nil .nil) (.node (ob P 217) .nil .nil)) (.node (ob P 121) (.node (ob P 185) .nil .nil) .nil)))) (.node (ob P 13) (.node (ob P 21) (.node (ob P 37) (.node (ob P 69) (.node (ob P 133) .nil .nil) (.node (ob P 197) .nil .nil)) (.node (ob P 101) (.node (ob P 165) .nil .nil) .nil)) (.node (ob P 53) (.node (ob P 85) (.node (ob P 149) .nil .nil) (.node (ob P 213) .nil .nil)) (.node (ob P 117) (.node (ob P 181) .nil .nil) .nil))) (.node (ob P 29) (.node (ob P 45) (.node (ob P 77) (.node (ob P 141) .nil .nil) (.node (ob P 205) .nil .nil)) (.node (ob P 109) (.node (ob P 173) .nil .nil) .nil)) (.node (ob P 61) (.node (ob P 93) (.node (ob P 157) .nil .nil) (.node (ob P 221) .nil .nil)) (.node (ob P 125) (.node (ob P 189) .nil .nil) .nil)))))) (.node (ob P 2) (.node (ob P 4) (.node (ob P 8) (.node (ob P 16) (.node (ob P 32) (.node (ob P 64) (.node (ob P 128) .nil .nil) (.node (ob P 192) .nil .nil)) (.node (ob P 96) (.node (ob P 160) .nil .nil) (.node (ob P 224) .nil .nil))) (.node (ob P 48) (.node (ob P 80) (.node (ob P 144) .nil .nil) (.node (ob P 208) .nil .nil)) (.node (ob P 112) (.node (ob P 176) .nil .nil) .nil))) (.node (ob P 24) (.node (ob P 40) (.node (ob P 72) (.node (ob P 136) .nil .nil) (.node (ob P 200) .nil .nil)) (.node (ob P 104) (.node (ob P 168) .nil .nil) .nil)) (.node (ob P 56) (.node (ob P 88) (.node (ob P 152) .nil .nil) (.node (ob P 216) .nil .nil)) (.node (ob P 120) (.node (ob P 184) .nil .nil) .nil)))) (.node (tab 28) (.node (ob P 20) (.node (ob P 36) (.node (ob P 68) (.node (ob P 132) .nil .nil) (.node (ob P 196) .nil .nil)) (.node (ob P 100) (.node (ob P 164) .nil .nil) .nil)) (.node (ob P 52) (.node (ob P 84) (.node (ob P 148) .nil .nil) (.node (ob P 212) .nil .nil)) (.node (ob P 116) (.node (ob P 180) .nil .nil) .nil))) (.node (ob P 28) (.node (ob P 44) (.node (ob P 76) (.node (ob P 140) .nil .nil) (.node (ob P 204) .nil .nil)) (.node (ob P 108) (.node (ob P 172) .nil .nil) .nil)) (.node (ob P 60) (.node (ob P 92) (.node (ob P 156) .nil .nil) (.node (ob P 220) .nil .nil)) (.node (ob P 124) (.node (ob P 188) .nil .nil) .nil))))) (.node (ob P 6) (.node (ob P 10) (.node (ob P 18) (.node (ob P 34) (.node (ob P 66) (.node (ob P 130) .nil .nil) (.node (ob P 194) .nil .nil)) (.node (ob P 98) (.node (ob P 162) .nil .nil) (.node (ob P 226) .nil .nil))) (.node (ob P 50) (.node (ob P 82) (.node (ob P 146) .nil .nil) (.node (ob P 210) .nil .nil)) (.node (ob P 114) (.node (ob P 178) .nil .nil) .nil))) (.node (ob P 26) (.node (ob P 42) (.node (ob P 74) (.node (ob P 138) .nil .nil) (.node (ob P 202) .nil .nil)) (.node (ob P 106) (.node (ob P 170) .nil .nil) .nil)) (.node (ob P 58) (.node (ob P 90) (.node (ob P 154) .nil .nil) (.node (ob P 218) .nil .nil)) (.node (ob P 122) (.node (ob P 186) .nil .nil) .nil)))) (.node (ob P 14) (.node (ob P 22) (.node (ob P 38) (.node (ob P 70) (.node (ob P 134) .nil .nil) (.node (ob P 198) .nil .nil)) (.node (ob P 102) (.node (ob P 166) .nil .nil) .nil)) (.node (ob P 54) (.node (ob P 86) (.node (ob P 150) .nil .nil) (.node (ob P 214) .nil .nil)) (.node (ob P 118) (.node (ob P 182) .nil .nil) .nil))) (.node (ob P 30) (.node (ob P 46) (.node (ob P 78) (.node (ob P 142) .nil .nil) (.node (ob P 206) .nil .nil)) (.node (ob P 110) (.node (ob P 174) .nil .nil) .nil)) (.node (ob P 62) (.node (ob P 94) (.node (ob P 158) .nil .nil) (.node (ob P 222) .nil .nil)) (.node (ob P 126) (.node (ob P 190) .nil .nil) .nil)))))))
noncomputable abbrev stD (w : World) (os : OsState) : SharedT := { tree := stDT w.params, n := 228, life := { }, gens := { toList := [] }, drawn := { }, toks := 498, os := os }
noncomputable def stET (P : Params) : BT := (.node (ob P 0) (.node (ob P 1) (.node (ob P 3) (.node (ob P 7) (.node (ob P 15) (.node (ob P 31) (.node (ob P 63) (.node (ob P 127) (.node (ob P 255) .nil .nil) .nil) (.node (ob P 191) .nil .nil)) (.node (ob P 95) (.node (ob P 159) .nil .nil) (.node (ob P 223) .nil .nil))) (.node (ob P 47) (.node (ob P 79) (.node (ob P 143) .nil .nil) (.node (ob P 207) .nil .nil)) (.node (ob P 111) (.node (ob P 175) .nil .nil) (.node (ob P 239) .nil .nil)))) (.node (ob P 23) (.node (ob P 39) (.node (ob P 71) (.node (ob P 135) .nil .nil) (.node (ob P 199) .nil .nil)) (.node (ob P 103) (.node (ob P 167) .nil .nil) (.node (ob P 231) .nil .nil))) (.node (ob P 55) (.node (ob P 87) (.node (ob P 151) .nil .nil) (.node (ob P 215) .nil .nil)) (.node (ob P 119) (.node (ob P 183) .nil .nil) (.node (ob P 247) .nil .nil))))) (.node (ob P 11) (.node (ob P 19) (.node (ob P 35) (.node (ob P 67) (.node (ob P 131) .nil .nil) (.node (ob P 195) .nil .nil)) (.node (ob P 99) (.node (ob P 163) .nil .nil) (.node (ob P 227) .nil .nil))) (.node (ob P 51) (.node (ob P 83) (.node (ob P 147) .nil .nil) (.node (ob P 211) .nil .nil)) (.node (ob P 115) (.node (ob P 179) .nil .nil) (.node (ob P 243) .nil .nil)))) (.node (ob P 27) (.node (ob P 43) (.node (ob P 75) (.node (ob P 139) .nil .nil) (.node (ob P 203) .nil .nil)) (.node (ob P 107) (.node (ob P 171) .nil .nil) (.node (ob P 235) .nil .nil))) (.node (ob P 59) (.node (ob P 91) (.node (ob P 155) .nil .nil) (.node (ob P 219) .nil .nil)) (.node (ob P 123) (.node (ob P 187) .nil .nil) (.node (ob P 251) .nil .nil)))))) (.node (ob P 5) (.node (ob P 9) (.node (ob P 17) (.node (ob P 33) (.node (ob P 65) (.node (ob P 129) (.node (ob P 257) .nil .nil) .nil) (.node (ob P 193) .nil .nil)) (.node (ob P 97) (.node (ob P 161) .nil .nil) (.node (ob P 225) .nil .nil))) (.node (ob P 49) (.node (ob P 81) (.node (ob P 145) .nil .nil) (.node (ob P 209) .nil .nil)) (.node (ob P 113) (.node (ob P 177) .nil .nil) (.node (ob P 241) .nil .nil)))) (.node (ob P 25) (.node (ob P 41) (.node (ob P 73) (.node (ob P 137) .nil .nil) (.node (ob P 201) .nil .nil)) (.node (ob P 105) (.node (ob P 169) .nil .nil) (.node (ob P 233) .nil .nil))) (.node (ob P 57) (.node (ob P 89) (.node (ob P 153) .nil .nil) (.node (ob P 217) .nil .nil)) (.node (ob P 121) (.node (ob P 185) .nil .nil) (.node (ob P 249) .nil .nil))))) (.node (ob P 13) (.node (ob P 21) (.node (ob P 37) (.node (ob P 69) (.node (ob P 133) .nil .nil) (.node (ob P 197) .nil .nil)) (.node (ob P 101) (.node (ob P 165) .nil .nil) (.node (ob P 229) .nil .nil))) (.node (ob P 53) (.node (ob P 85) (.node (ob P 149) .nil .nil) (.node (ob P 213) .nil .nil)) (.node (ob P 117) (.node (ob P 181) .nil .nil) (.node (ob P 245) .nil .nil)))) (.node (ob P 29) (.node (ob P 45) (.node (ob P 77) (.node (ob P 141) .nil .nil) (.node (ob P 205) .nil .nil)) (.node (ob P 109) (.node (ob P 173) .nil .nil) (.node (ob P 237) .nil .nil))) (.node (ob P 61) (.node (ob P 93) (.node (ob P 157) .nil .nil) (.node (ob P 221) .nil .nil)) (.node (ob P 125) (.node (ob P 189) .nil .nil) (.node (ob P 253) .nil .nil))))))) (.node (ob P 2) (.node (ob P 4) (.node (ob P 8) (.node (ob P 16) (.node (ob P 32) (.node (ob P 64) (.node (ob P 128) (.node (ob P 256) .nil .nil) .nil) (.node (ob P 192) .nil .nil)) (.node (ob P 96) (.node (ob P 160) .nil .nil) (.node (ob P 224) .nil .nil))) (.node (ob P 48) (.node (ob P 80) (.node (ob P 144) .nil .nil) (.node (ob P 208) .nil .nil)) (.node (ob P 112) (.node (ob P 176) .nil .nil) (.node (ob P 240) .nil .nil)))) (.node (ob P 24) (.node (ob P 40) (.node (ob P 72) (.node (ob P 136) .nil .nil) (.node (ob P 200) .nil .nil)) (.node (ob P 104) (.node (ob P 168) .nil .nil) (.node (ob P 232) .nil .nil))) (.node (ob P 56) (.node (ob P 88) (.node (ob P 152) .nil .nil) (.node (ob P 216) .nil .nil)) (.node (ob P 120) (.node (ob P 184) .nil .nil) (.node (ob P 248) .nil .nil))))) (.node (ob P 12) (.node (ob P 20) (.node (ob P 36) (.node (ob P 68) (.node (ob P 132) .nil .nil) (.node (ob P 196) .nil .nil)) (.node (ob P 100) (.node (ob P 164) .nil .nil) (.node (ob P 228) .nil .nil))) (.node (ob P 52) (.node (ob P 84) (.node (ob P 148) .nil .nil) (.node (ob P 212) .nil .nil)) (.node (ob P 116) (.node (ob P 180) .nil .nil) (.node (ob P 244) .nil .nil)))) (.node (ob P 28) (.node (ob P 44) (.node (ob P 76) (.node (ob P 140) .nil .nil) (.node (ob P 204) .nil .nil)) (.node (ob P 108) (.node (ob P 172) .nil .nil) (.node (ob P 236) .nil .nil))) (.node (ob P 60) (.node (ob P 92) (.node (ob P 156) .nil .nil) (.node (ob P 220) .nil .nil)) (.node (ob P 124) (.node (ob P 188) .nil .nil) (.node (ob P 252) .nil .nil)))))) (.node (ob P 6) (.node (ob P 10) (.node (ob P 18) (.node (ob P 34) (.node (ob P 66) (.node (ob P 130) (.node (ob P 258) .nil .nil) .nil) (.node (ob P 194) .nil .nil)) (.node (ob P 98) (.node (ob P 162) .nil .nil) (.node (ob P 226) .nil .nil))) (.node (ob P 50) (.node (ob P 82) (.node (ob P 146) .nil .nil) (.node (ob P 210) .nil .nil)) (.node (ob P 114) (.node (ob P 178) .nil .nil) (.node (ob P 242) .nil .nil)))) (.node (ob P 26) (.node (ob P 42) (.node (ob P 74) (.node (ob P 138) .nil .nil) (.node (ob P 202) .nil .nil)) (.node (ob P 106) (.node (ob P 170) .nil .nil) (.node (ob P 234) .nil .nil))) (.node (ob P 58) (.node (ob P 90) (.node (ob P 154) .nil .nil) (.node (ob P 218) .nil .nil)) (.node (ob P 122) (.node (ob P 186) .nil .nil) (.node (ob P 250) .nil .nil))))) (.node (ob P 14) (.node (ob P 22) (.node (ob P 38) (.node (ob P 70) (.node (ob P 134) .nil .nil) (.node (ob P 198) .nil .nil)) (.node (ob P 102) (.node (ob P 166) .nil .nil) (.node (ob P 230) .nil .nil))) (.node (ob P 54) (.node (ob P 86) (.node (ob P 150) .nil .nil) (.node (ob P 214) .nil .nil)) (.node (ob P 118) (.node (ob P 182) .nil .nil) (.node (ob P 246) .nil .nil)))) (.node (ob P 30) (.node (ob P 46) (.node (ob P 78) (.node (ob P 142) .nil .nil) (.node (ob P 206) .nil .nil)) (.node (ob P 110) (.node (ob P 174) .nil .nil) (.node (ob P 238) .nil .nil))) (.node (ob P 62) (.node (ob P 94) (.node (ob P 158) .nil .nil) (.node (ob P 222) .nil .nil)) (.node (ob P 126) (.node (ob P 190) .nil .nil) (.node (ob P 254) .nil .nil))))))))
noncomputable abbrev stE (w : World) (os : OsState) : SharedT := { tree := stET w.params, n := 259, life := { }, gens := { toList := [] }, drawn := { }, toks := 542, os := os }
noncomputable def finH (P : Params) : Heap := ⟨#[ob P 0, ob P 1, ob P 2, ob P 3, ob P 4, ob P 5, ob P 6, ob P 7, ob P 8, ob P 9, ob P 10, ob P 11, ob P 12, ob P 13, ob P 14, ob P 15, ob P 16, ob P 17, ob P 18, ob P 19, ob P 20, ob P 21, ob P 22, ob P 23, ob P 24, ob P 25, ob P 26, ob P 27, ob P 28, ob P 29, ob P 30, ob P 31, ob P 32, ob P 33, ob P 34, ob P 35, ob P 36, ob P 37, ob P 38, ob P 39, ob P 40, ob P 41, ob P 42, ob P 43, ob P 44, ob P 45, ob P 46, ob P 47, ob P 48, ob P 49, ob P 50, ob P 51, ob P 52, ob P 53, ob P 54, ob P 55, ob P 56, ob P 57, ob P 58, ob P 59, ob P 60, ob P 61, ob P 62, ob P 63, ob P 64, ob P 65, ob P 66, ob P 67, ob P 68, ob P 69, ob P 70, ob P 71, ob P 72, ob P 73, ob P 74, ob P 75, ob P 76, ob P 77, ob P 78, ob P 79, ob P 80, ob P 81, ob P 82, ob P 83, ob P 84, ob P 85, ob P 86, ob P 87, ob P 88, ob P 89, ob P 90, ob P 91, ob P 92, ob P 93, ob P 94, ob P 95, ob P 96, ob P 97, ob P 98, ob P 99, ob P 100, ob P 101, ob P 102, ob P 103, ob P 104, ob P 105, ob P 106, ob P 107, ob P 108, ob P 109, ob P 110, ob P 111, ob P 112, ob P 113, ob P 114, ob P 115, ob P 116, ob P 117, ob P 118, ob P 119, ob P 120, ob P 121, ob P 122, ob P 123, ob P 124, ob P 125, ob P 126, ob P 127, ob P 128, ob P 129, ob P 130, ob P 131, ob P 132, ob P 133, ob P 134, ob P 135, ob P 136, ob P 137, ob P 138, ob P 139, ob P 140, ob P 141, ob P 142, ob P 143, ob P 144, ob P 145, ob P 146, ob P 147, ob P 148, ob P 149, ob P 150, ob P 151, ob P 152, ob P 153, ob P 154, ob P 155, ob P 156, ob P 157, ob P 158, ob P 159, ob P 160, ob P 161, ob P 162, ob P 163, ob P 164, ob P 165, ob P 166, ob P 167, ob P 168, ob P 169, ob P 170, ob P 171, ob P 172, ob P 173, ob P 174, ob P 175, ob P 176, ob P 177, ob P 178, ob P 179, ob P 180, ob P 181, ob P 182, ob P 183, ob P 184, ob P 185, ob P 186, ob P 187, ob P 188, ob P 189, ob P 190, ob P 191, ob P 192, ob P 193, ob P 194, ob P 195, ob P 196, ob P 197, ob P 198, ob P 199, ob P 200, ob P 201, ob P 202, ob P 203, ob P 204, ob P 205, ob P 206, ob P 207, ob P 208, ob P 209, ob P 210, ob P 211, ob P 212, ob P 213, ob P 214, ob P 215, ob P 216, ob P 217, ob P 218, ob P 219, ob P 220, ob P 221, ob P 222, ob P 223, ob P 224, ob P 225, ob P 226, ob P 227, ob P 228, ob P 229, ob P 230, ob P 231, ob P 232, ob P 233, ob P 234, ob P 235, ob P 236, ob P 237, ob P 238, ob P 239, ob P 240, ob P 241, ob P 242, ob P 243, ob P 244, ob P 245, ob P 246, ob P 247, ob P 248, ob P 249, ob P 250, ob P 251, ob P 252, ob P 253, ob P 254, ob P 255, ob P 256, ob P 257, ob P 258], { }⟩
abbrev pos0 : Pos := { line := 0, col := 0, endLine := 0, endCol := 0 }
abbrev pos1 : Pos := { line := 3, col := 0, endLine := 8, endCol := 24 }
abbrev pos2 : Pos := { line := 40, col := 0, endLine := 45, endCol := 45 }
abbrev pos3 : Pos := { line := 84, col := 0, endLine := 97, endCol := 43 }
abbrev pos4 : Pos := { line := 155, col := 0, endLine := 156, endCol := 42 }
abbrev pos5 : Pos := { line := 183, col := 0, endLine := 208, endCol := 15 }
noncomputable def envP : Env := { scope := PySem.Challenge.pw_xm0033_01.main.scope, locals := PySem.mainNs, globals := PySem.mainNs, cells := [], code := PySem.Value.ref 13, frame := some 14 }
noncomputable def bodyP : List Stmt := behindTheImports PySem.Challenge.pw_xm0033_01
noncomputable def codeP : Code := .body bodyP envP
abbrev annP : Option Value := some (.ref 6)
theorem pre_go (w : World) : (fun os => topGo treeTable PySem.Challenge.pw_xm0033_01 w 11 annP 12 ⟨boot_heap w.params, Array.mk [], boot_drawn, boot_toks, os⟩ (topStub PySem.Challenge.pw_xm0033_01)) =
    fun os => some ((stA w os).abs, ⟨denote treeTable codeP, codeP, pos0, [topFrame pos0]⟩) := by kernel_rfl
theorem blk_go (w : World) : (fun os => segRun treeTable PySem.Challenge.pw_xm0033_01 w 11 annP 1 1 (stA w os).abs (blockOf bodyP envP codeP pos0 [topFrame pos0])) =
    fun os => some (Flow.next, (stA w os).abs, codeP, pos0) := by kernel_rfl
theorem size_is (w : World) : ((boot_heap w.params).isNs mainGlobals && (Array.mk [] : Array GenState).size == 0, (boot_heap w.params).objs.size, (boot_heap w.params).nsMap mainGlobals "__annotations__") = (true, 11, annP) := by kernel_rfl
theorem piece0 (w : World) : (fun os => segRunT treeTable PySem.Challenge.pw_xm0033_01 w 11 annP 1 267 (stA w os) (piecesOf ((bodyP.drop 0).take 3) envP codeP pos0 [topFrame pos0])) =
    fun os => some (Flow.next, stX w os, codeP, pos1) := by kernel_rfl
theorem piece1 (w : World) : (fun os => segRunT treeTable PySem.Challenge.pw_xm0033_01 w 11 annP 1 140 (stX w os) (piecesOf ((bodyP.drop 3).take 4) envP codeP pos1 [topFrame pos0])) =
    fun os => some (Flow.next, stB w os, codeP, pos2) := by kernel_rfl
theorem piece2 (w : World) : (fun os => segRunT treeTable PySem.Challenge.pw_xm0033_01 w 11 annP 1 379 (stB w os) (piecesOf ((bodyP.drop 7).take 14) envP codeP pos2 [topFrame pos0])) =
    fun os => some (Flow.next, stC w os, codeP, pos3) := by kernel_rfl
theorem piece3 (w : World) : (fun os => segRunT treeTable PySem.Challenge.pw_xm0033_01 w 11 annP 1 397 (stC w os) (piecesOf ((bodyP.drop 21).take 14) envP codeP pos3 [topFrame pos0])) =
    fun os => some (Flow.next, stD w os, codeP, pos4) := by kernel_rfl
theorem piece4 (w : World) : (fun os => segRunT treeTable PySem.Challenge.pw_xm0033_01 w 11 annP 1 151 (stD w os) (piecesOf ((bodyP.drop 35).take 5) envP codeP pos4 [topFrame pos0])) =
    fun os => some (Flow.next, stE w os, codeP, pos5) := by kernel_rfl
theorem body_is : bodyP = ((bodyP.drop 0).take 3) ++ (((bodyP.drop 3).take 4) ++ (((bodyP.drop 7).take 14) ++ (((bodyP.drop 21).take 14) ++ (((bodyP.drop 35).take 5) ++ [])))) := by kernel_rfl
theorem heap_is (P : Params) : absHeap (stET P) 259 { } = finH P := by kernel_rfl
theorem tail_done {tb : String → Option Builtin} {p : Program} {w : World} {m₀ : Nat} {ann : Option Value} {c : Code} {pos q : Pos} (s : Shared) :
    topRun tb p w m₀ ann 2 s ⟨doneF .next, c, pos, [topFrame q]⟩ = some s := by cases s; rfl
theorem run_gen {p : Program} {b g0 g1 g2 g3 g4 : List Stmt} {env : Env} {w : World} {m₀ : Nat} {ann : Option Value} {S₀ : Shared} {A B C D E F : SharedT} {q p0 p1 p2 p3 p4 p5 : Pos} {n k0 k1 k2 k3 k4 N : Nat}
    (pre : topGo treeTable p w m₀ ann n S₀ (topStub p) = some (A.abs, ⟨denote treeTable (.body b env), .body b env, p0, [topFrame q]⟩))
    (blk : segRun treeTable p w m₀ ann 1 1 A.abs (blockOf b env (.body b env) p0 [topFrame q]) = some (Flow.next, A.abs, .body b env, p0))
    (h0 : segRunT treeTable p w m₀ ann 1 k0 A (piecesOf g0 env (.body b env) p0 [topFrame q]) = some (Flow.next, B, .body b env, p1))
    (h1 : segRunT treeTable p w m₀ ann 1 k1 B (piecesOf g1 env (.body b env) p1 [topFrame q]) = some (Flow.next, C, .body b env, p2))
    (h2 : segRunT treeTable p w m₀ ann 1 k2 C (piecesOf g2 env (.body b env) p2 [topFrame q]) = some (Flow.next, D, .body b env, p3))
    (h3 : segRunT treeTable p w m₀ ann 1 k3 D (piecesOf g3 env (.body b env) p3 [topFrame q]) = some (Flow.next, E, .body b env, p4))
    (h4 : segRunT treeTable p w m₀ ann 1 k4 E (piecesOf g4 env (.body b env) p4 [topFrame q]) = some (Flow.next, F, .body b env, p5))
    (hb : b = g0 ++ (g1 ++ (g2 ++ (g3 ++ (g4 ++ []))))) (e : n + (1 + (k0 + (k1 + (k2 + (k3 + (k4 + 2)))))) = N) : topRun treeTable p w m₀ ann N S₀ (topStub p) = some F.abs := by
  have c := piece_app (segRun_of h0) (piece_app (segRun_of h1) (piece_app (segRun_of h2) (piece_app (segRun_of h3) (piece_app (segRun_of h4) (piece_nil (tail_done (tb := treeTable) (p := p) (w := w) (m₀ := m₀) (ann := ann) (c := .body b env) (pos := p5) (q := q) F.abs))))))
  rw [← hb] at c
  rw [← e]
  exact go_top pre (piece_block blk c)
theorem run_is (w : World) (os : OsState) : topRun treeTable PySem.Challenge.pw_xm0033_01 w 11 annP 1349 ⟨boot_heap w.params, Array.mk [], boot_drawn, boot_toks, os⟩ (topStub PySem.Challenge.pw_xm0033_01) = some ⟨finH w.params, Array.mk [], { }, 542, os⟩ := by
  have h := run_gen (N := 1349) (congrFun (pre_go w) os) (congrFun (blk_go w) os) (congrFun (piece0 w) os) (congrFun (piece1 w) os) (congrFun (piece2 w) os) (congrFun (piece3 w) os) (congrFun (piece4 w) os) body_is (by decide)
  unfold SharedT.abs at h
  dsimp only at h
  rw [heap_is] at h
  exact h

def xtP (s : Shared) : Bool := xlAt view [] s && recOk (RowW.records (PySem.Challenge.rw_xm0033_01.row.toRowW)) s
theorem looks_flags (w : World) : (fun os : OsState => (staticsOk (importedModules PySem.Challenge.pw_xm0033_01.main.body) (boot_heap w.params) (finH w.params) && namesBound PySem.Challenge.pw_xm0033_01 (finH w.params) && gensDone ⟨finH w.params, Array.mk [], { }, 542, os⟩ && laidKept (boot_heap w.params) (finH w.params))) = fun _ => true := by kernel_rfl
theorem looks_seen (w : World) : (fun os : OsState => openSeen view [PySem.Str.ofString "BasicError"] (importedModules PySem.Challenge.pw_xm0033_01.main.body) xtP true ⟨finH w.params, Array.mk [], { }, 542, os⟩) = fun _ => openGood view [PySem.Str.ofString "BasicError"] := by kernel_rfl
theorem looks_K (w : World) : (fun os : OsState => (kHook Mine.k0.heap_1 asP asP_eq).obs ⟨finH w.params, Array.mk [], { }, 542, os⟩) = fun _ => (kHook Mine.k0.heap_1 asP asP_eq).val w := by kernel_rfl
theorem three {α β γ : Type} {a : OsState → α} {b : OsState → β} {c : OsState → γ} {a0 : α} {b0 : β} {c0 : γ} (h1 : a = fun _ => a0) (h2 : b = fun _ => b0) (h3 : c = fun _ => c0) : (fun os => (a os, b os, c os)) = fun _ => (a0, b0, c0) := by
  subst h1 h2 h3; rfl
theorem left_is : LeftO PySem.Challenge.pw_xm0033_01 view [PySem.Str.ofString "BasicError"] xtP (kHook Mine.k0.heap_1 asP asP_eq).obs (kHook Mine.k0.heap_1 asP asP_eq).val 2766 :=
  LeftO.of_pieces (boot_open (by kernel_rfl) (by decide +kernel) (fun _ => by kernel_rfl)) size_is run_is (by decide +kernel) (fun w => three (looks_flags w) (looks_seen w) (looks_K w))
/-- what is left to walk, and that it is enough -/
noncomputable def hd : { p : Prop // p → PySem.Challenge.rw_xm0033_01.Holds } := by
  refine' ⟨_, fun walk => ?main⟩
  case main =>
    w_on
    refine holds_law Mine.said fun _ => ?_
    refine holds_open (q := view) (loose := [PySem.Str.ofString "BasicError"]) (Xt := xtP) (XP := XL view []) (YP := (kHook Mine.k0.heap_1 asP asP_eq).says) (N := 2766) left_is (Hook.of _) (Hook.keeps _) (fun s e => xl_of s (Bool.and_eq_true_iff.mp e).1) XL.keeps (by rfl) (by rfl) (by rfl) (fun s e => recFacts_of (Bool.and_eq_true_iff.mp e).2) (by rfl) (by first | assumption | decide +kernel) (by decide +kernel) ⟨rfl, rfl, rfl, rfl, rfl, by decide +kernel⟩ ?hw ?hc
    (case hw => w_witness2)
    exact walk
end
section
open PySem PySem.W PyProof.Rows
structure Room (dp un R : Nat) : Prop where
  d : dp + R < recursionLimit
  u : un + 8 * R < cLine
theorem Room.s1 {dp un R : Nat} (h : Room dp un (R + 1)) : Room (dp + 1) (un + 3) R := ⟨by have := h.d; omega, by have := h.u; omega⟩
theorem Room.le {dp un R R' : Nat} (h : Room dp un R) (k : R' ≤ R) : Room dp un R' := ⟨by have := h.d; omega, by have := h.u; omega⟩
theorem Room.d0 {dp un R : Nat} (h : Room dp un R) : dp < recursionLimit := by have := h.d; omega
theorem Room.u0 {dp un R : Nat} (h : Room dp un R) : un < cLine := by have := h.u; omega
theorem Room.u1 {dp un R : Nat} (h : Room dp un (R + 1)) : un + 1 < cLine := by have := h.u; omega
theorem Room.u2 {dp un R : Nat} (h : Room dp un (R + 1)) : un + 2 < cLine := by have := h.u; omega
noncomputable abbrev loose0 : List Str := looseW Mine.view [Str.ofString "BasicError"]
noncomputable abbrev prog0 : Program := PySem.Challenge.rw_xm0033_01.row.prog
def Clm (w : World) (mean : ExcName → Option Value) (mg mb : Str → Option Value) (R : Nat) (f : Addr) (news : CbLed) (vs : List Value) (Rt : Tok → Value) : Prop :=
  ∀ (dp un : Nat) (gd : Option (List Code)) (cn : Str) (cs : Scope) (a : Addr) (ccd : Value) (cl : List (Str × Addr)) (outer : List Env) (A₀ : Around) (base h₀ : Heap) (L : Addr) (m : Str → Option Value) (s : Shared) (Q E : Value → Shared → Prop),
    Below A₀ base outer h₀ → Fr h₀ L s.heap m → (Mine.k0.heap_1 w.params).In h₀ → News h₀ L s.heap news → Top Mine.view loose0 mean mg mb h₀ → cs.kind = .function →
    Room dp un R → CbRet h₀ L m news s Q Rt →
      wpAny (model prog0 w) (ktrTop dp un gd cn cs L a ccd cl outer) (call (.ref f) vs) Q E s
theorem Clm.use {w : World} {mean : ExcName → Option Value} {mg mb : Str → Option Value} {R : Nat} {f : Addr} {news : CbLed} {vs : List Value} {Rt : Tok → Value}
    {dp un : Nat} {gd : Option (List Code)} {cn : Str} {cs : Scope} {a : Addr} {ccd : Value} {cl : List (Str × Addr)} {outer : List Env} {A₀ : Around} {base h₀ : Heap} {L : Addr} {m : Str → Option Value} {s : Shared} {Q E : Value → Shared → Prop}
    (C : Clm w mean mg mb R f news vs Rt)
    (B : Below A₀ base outer h₀) (F : Fr h₀ L s.heap m) (X : (Mine.k0.heap_1 w.params).In h₀) (N : News h₀ L s.heap news) (T : Top Mine.view loose0 mean mg mb h₀) (hk : cs.kind = .function)
    (room : Room dp un R) (ret : ∀ (t : Tok) (h' : Heap) (tk' : Nat), Fr h₀ L h' m → News h₀ L h' news → Q (Rt t) { s with heap := h', toks := tk' }) :
    wpAny (model prog0 w) (ktrTop dp un gd cn cs L a ccd cl outer) (call (.ref f) vs) Q E s :=
  C _ _ _ _ _ _ _ _ _ _ _ _ _ _ _ _ _ B F X N T hk room ret
structure Fits (x : Int) : Prop where
  lo : -2147483648 ≤ x
  hi : x < 2147483648
end
section
open PySem PySem.W PyProof.Rows PySem.Spec PySem.Calls
set_option linter.unusedVariables false
/-- one of zip's own iterators: its address, what it goes over, the items, whether that is a tuple -/
structure Sub where
  it : Addr
  src : Addr
  xs : Array Value
  tup : Bool
def SubAt (u : Sub) (k : Nat) (h : Heap) : Prop :=
  (u.tup = true ∧ h.IsTupleIter u.it u.src k ∧ h.IsTuple u.src u.xs) ∨ (u.tup = false ∧ h.IsListIter u.it u.src k ∧ h.IsList u.src u.xs)
theorem SubAt.keep {u : Sub} {k : Nat} {h h' : Heap} (x : SubAt u k h) (h1 : ∀ o, h.get? u.it = some o → h'.get? u.it = some o) (h2 : ∀ o, h.get? u.src = some o → h'.get? u.src = some o) : SubAt u k h' := by
  rcases x with ⟨e, ⟨o, a, b⟩, ⟨p, c, d⟩⟩ | ⟨e, ⟨o, a, b⟩, ⟨p, c, d⟩⟩
  · exact .inl ⟨e, ⟨o, h1 o a, b⟩, ⟨p, h2 p c, d⟩⟩
  · exact .inr ⟨e, ⟨o, h1 o a, b⟩, ⟨p, h2 p c, d⟩⟩
theorem SubAt.live {u : Sub} {k : Nat} {h : Heap} (x : SubAt u k h) : ∃ o, h.get? u.it = some o := by
  rcases x with ⟨e, ⟨o, a, b⟩, _⟩ | ⟨e, ⟨o, a, b⟩, _⟩ <;> exact ⟨o, a⟩
section
variable {prog : Program} {w : World} {A : Around} {E : Value → Shared → Prop} {s : Shared}
theorem next_tup_item {it t : Addr} {i : Nat} {items : Array Value} {x : Value} {Q : Value → Shared → Prop} (hit : s.heap.IsTupleIter it t i)
    (ht : s.heap.IsTuple t items) (hx : items[i]? = some x)
    (hQ : ∀ h', h'.IsTupleIter it t (i + 1) → Heap.SameBut it s.heap h' → Q x { s with heap := h' }) :
    wpAny (model prog w) A (Builtin.SmallTypes.nextOf (.ref it)) Q E s := by
  obtain ⟨o, ho, hc, hd⟩ := id hit
  obtain ⟨ol, hol, _, nl, hdl⟩ := ht
  unfold Builtin.SmallTypes.nextOf
  refine wpAny_bind (wpAny_callSpecial?_slot (name := Str.ofString "__next__") hit.typeIs F.slot_tuple_iterator_next
    (wpAny_call_entry F.slot_tuple_iterator_next hit.typeIs F.entry_tuple_iterator_next ?_ (F.args_tuple_iterator_next_1 _)))
  show wpAny _ _ (field (.ref it) 0 >>= _) _ _ s
  refine wpAny_bind (wpAny_field ho hd (x := .ref t) rfl ?_)
  show wpAny _ _ (if (Value.ref t == Value.none) = true then _ else _) _ _ s
  rw [if_neg (show ¬ ((Value.ref t == Value.none) = true) from Bool.false_ne_true)]
  show wpAny _ _ (field (.ref it) 1 >>= _) _ _ s
  refine wpAny_bind (wpAny_field ho hd (x := .int i 0) rfl ?_)
  show wpAny _ _ (seqItems? (.ref t) >>= _) _ _ s
  refine wpAny_bind (wpAny_seqItems hol hdl ?_)
  simp only [Int.toNat_natCast, hx]
  refine wpAny_bind (wpAny_setField ho hd (by simp) (wpAny_pure ⟨x, rfl, wpAny_pure (hQ _ ?_ (Heap.SameBut.update ..))⟩))
  exact ⟨_, Heap.get?_update_self _ ho (Obj.isFreed_of_fields (Obj.data_mapFields hd _)), (Obj.cls_mapFields ..).trans hc, by
    rw [Obj.data_mapFields hd]; simp [rawInt]⟩
theorem next_tup_end {it t : Addr} {i : Nat} {items : Array Value} {Q : Value → Shared → Prop} (hh : A.handled = none)
    (hit : s.heap.IsTupleIter it t i) (ht : s.heap.IsTuple t items) (hx : items[i]? = none)
    (hE : ∀ h' e, Heap.ExtBut it s.heap h' → (∃ o, h'.get? e = some o ∧ o.cls = .type "StopIteration") → E (.ref e) { s with heap := h' }) :
    wpAny (model prog w) A (Builtin.SmallTypes.nextOf (.ref it)) Q E s := by
  obtain ⟨o, ho, hc, hd⟩ := id hit
  obtain ⟨ol, hol, _, nl, hdl⟩ := ht
  unfold Builtin.SmallTypes.nextOf
  refine wpAny_bind (wpAny_callSpecial?_slot (name := Str.ofString "__next__") hit.typeIs F.slot_tuple_iterator_next
    (wpAny_call_entry F.slot_tuple_iterator_next hit.typeIs F.entry_tuple_iterator_next ?_ (F.args_tuple_iterator_next_1 _)))
  show wpAny _ _ (field (.ref it) 0 >>= _) _ _ s
  refine wpAny_bind (wpAny_field ho hd (x := .ref t) rfl ?_)
  show wpAny _ _ (if (Value.ref t == Value.none) = true then _ else _) _ _ s
  rw [if_neg (show ¬ ((Value.ref t == Value.none) = true) from Bool.false_ne_true)]
  show wpAny _ _ (field (.ref it) 1 >>= _) _ _ s
  refine wpAny_bind (wpAny_field ho hd (x := .int i 0) rfl ?_)
  show wpAny _ _ (seqItems? (.ref t) >>= _) _ _ s
  refine wpAny_bind (wpAny_seqItems hol hdl ?_)
  simp only [Int.toNat_natCast, hx]
  refine wpAny_bind (wpAny_rule (wpAny_bind (wpAny_setField ho hd (by simp) ?_)))
  show wpAny _ _ (newExc (.type "StopIteration") [] >>= _) _ _ _
  refine wpAny_bind ?_
  simp only [newExc, newTuple]
  refine wpAny_bind (wpAny_newObj_type ?_ (by size_fits))
  refine wpAny_bind (m := firstArgMember _ _) (wpAny_of_eq (a := Value.none) (by first | rfl | (simp only [firstArgMember]; rfl)) ?_)
  refine wpAny_newObj_type ?_ (by size_fits)
  simp only [raiseNew]
  refine wpAny_bind (wpAny_handled ?_)
  first | rw [show A.in1.handled = none from hh] | rw [hh]
  refine wpAny_bind (wpAny_pure (wpAny_throw ?_))
  exact hE _ _ (((Heap.SameBut.update ..).extBut.push _).push _) ⟨_, Heap.get?_push_size _ rfl, rfl⟩
theorem sub_item {u : Sub} {k : Nat} {x : Value} {Q : Value → Shared → Prop} (h : SubAt u k s.heap) (hne : u.src ≠ u.it) (hx : u.xs[k]? = some x)
    (hQ : ∀ h', SubAt u (k + 1) h' → Heap.SameBut u.it s.heap h' → Q x { s with heap := h' }) : wpAny (model prog w) A (Builtin.SmallTypes.nextOf (.ref u.it)) Q E s := by
  rcases h with ⟨e, a, b⟩ | ⟨e, a, b⟩
  · exact next_tup_item a b hx fun h' a' hs => hQ h' (.inl ⟨e, a', by obtain ⟨p, c, d⟩ := b; exact ⟨p, hs.extBut _ _ hne c, d⟩⟩) hs
  · exact wpAny_nextOf_list_item a b hx fun h' a' hs => hQ h' (.inr ⟨e, a', by obtain ⟨p, c, d⟩ := b; exact ⟨p, hs.extBut _ _ hne c, d⟩⟩) hs
theorem sub_end {u : Sub} {k : Nat} {Q : Value → Shared → Prop} (hh : A.handled = none) (h : SubAt u k s.heap) (hx : u.xs[k]? = none)
    (hE : ∀ h' e, Heap.ExtBut u.it s.heap h' → (∃ o, h'.get? e = some o ∧ o.cls = .type "StopIteration") → E (.ref e) { s with heap := h' }) : wpAny (model prog w) A (Builtin.SmallTypes.nextOf (.ref u.it)) Q E s := by
  rcases h with ⟨e, a, b⟩ | ⟨e, a, b⟩
  · exact next_tup_end hh a b hx hE
  · exact wpAny_nextOf_list_end hh a b hx hE
end
/-- what zip goes over, ahead of iter() -/
def SrcOk (l : Addr) (xs : Array Value) (tup : Bool) (h : Heap) : Prop := (tup = true ∧ h.IsTuple l xs) ∨ (tup = false ∧ h.IsList l xs)
theorem SrcOk.keep {l : Addr} {xs : Array Value} {tup : Bool} {h h' : Heap} (x : SrcOk l xs tup h) (h1 : ∀ o, h.get? l = some o → h'.get? l = some o) : SrcOk l xs tup h' := by
  rcases x with ⟨e, ⟨p, c, d⟩⟩ | ⟨e, ⟨p, c, d⟩⟩
  · exact .inl ⟨e, p, h1 p c, d⟩
  · exact .inr ⟨e, p, h1 p c, d⟩
theorem SrcOk.lt {l : Addr} {xs : Array Value} {tup : Bool} {h : Heap} (x : SrcOk l xs tup h) : l < h.objs.size := by
  rcases x with ⟨e, ⟨p, c, d⟩⟩ | ⟨e, ⟨p, c, d⟩⟩ <;> exact Heap.lt_size c
abbrev itObj (l : Addr) (tup : Bool) : Obj := if tup then { cls := .type "tuple_iterator", data := .fields #[.ref l, .int 0 0] } else { cls := .type "list_iterator", data := .fields #[.ref l, .int 0 0] }
theorem src_iter {prog : Program} {w : World} {A : Around} {E : Value → Shared → Prop} {s : Shared} {l : Addr} {xs : Array Value} {tup : Bool} {Q : Value → Shared → Prop} (h : SrcOk l xs tup s.heap)
    (hQ : ∀ h', h'.objs.size = s.heap.objs.size + 1 → SubAt ⟨s.heap.objs.size, l, xs, tup⟩ 0 h' → (∀ b o, s.heap.get? b = some o → h'.get? b = some o) → Q (.ref s.heap.objs.size) { s with heap := h' }) :
    wpAny (model prog w) A (pyIter (.ref l)) Q E s := by
  rcases h with ⟨e, b⟩ | ⟨e, b⟩
  · exact wpAny_pyIter_tuple b (hQ _ (Heap.size_push ..) (.inl ⟨e, ⟨_, Heap.get?_push_size _ rfl, rfl, rfl⟩, b.push _⟩) fun _ _ e => Heap.get?_push_of_some _ e)
  · exact wpAny_pyIter_list b (hQ _ (Heap.size_push ..) (.inr ⟨e, ⟨_, Heap.get?_push_size _ rfl, rfl, rfl⟩, b.push _⟩) fun _ _ e => Heap.get?_push_of_some _ e)
end
section
open PySem PySem.W PyProof.Rows PySem.Spec PySem.Calls
set_option linter.unusedVariables false

/-- zip over 2: the object, its tuple of iterators, its own result tuple -/
structure ZAp2 (z TI TO : Addr) (u1 u2 : Sub) : Prop where
  TIz : TI ≠ z
  TOz : TO ≠ z
  TITO : TI ≠ TO
  u1z : u1.it ≠ z
  u1TI : TI ≠ u1.it
  u1TO : TO ≠ u1.it
  u1s : u1.src ≠ u1.it
  u1sz : u1.src ≠ z
  u1sTO : u1.src ≠ TO
  u2z : u2.it ≠ z
  u2TI : TI ≠ u2.it
  u2TO : TO ≠ u2.it
  u2s : u2.src ≠ u2.it
  u2sz : u2.src ≠ z
  u2sTO : u2.src ≠ TO
  u1u2 : u1.it ≠ u2.it
  u1su2 : u1.src ≠ u2.it
  u2su1 : u2.src ≠ u1.it
abbrev IsTup2 (h : Heap) (T : Addr) (a1 a2 : Value) : Prop := h.get? T = some { cls := .type "tuple", data := .seq #[a1, a2] }
structure ZSt2 (z TI TO : Addr) (u1 u2 : Sub) (k : Nat) (f0 : Value) (h : Heap) : Prop where
  hz : IsZip h z TI TO f0
  hTI : IsTup2 h TI (.ref u1.it) (.ref u2.it)
  hTO : ∃ a1 a2, IsTup2 h TO a1 a2
  hu1 : SubAt u1 k h
  hu2 : SubAt u2 k h

section
variable {prog : Program} {w : World} {A : Around} {E : Value → Shared → Prop} {s : Shared}
theorem upd_tup2 {T : Addr} {a1 a2 x : Value} {k : Nat} {Q : Unit → Shared → Prop} (hT : IsTup2 s.heap T a1 a2)
    (h : ∀ h', h'.get? T = some { cls := .type "tuple", data := .seq ((#[a1, a2] : Array Value).setIfInBounds k x) } → Heap.SameBut T s.heap h' → Q () { s with heap := h' }) :
    wpAny (model prog w) A (updateSeq T (·.setIfInBounds k x)) Q E s := by
  refine wpAny_updateSeq hT rfl (h _ ?_ (Heap.SameBut.update ..))
  rw [Heap.get?_update_self _ hT rfl]
  simp [Obj.mapSeq]
theorem zip2_item {z TI TO : Addr} {u1 u2 : Sub} {k : Nat} {x1 x2 : Value} {Q : Value → Shared → Prop} (D : ZAp2 z TI TO u1 u2) (S : ZSt2 z TI TO u1 u2 k .none s.heap)
    (g1 : u1.xs[k]? = some x1) (g2 : u2.xs[k]? = some x2)
    (hQ : ∀ h', ZSt2 z TI TO u1 u2 (k + 1) (rawInt s.heap.objs.size) h' → IsTup2 h' s.heap.objs.size x1 x2 → h'.objs.size = s.heap.objs.size + 1 →
      (∀ c o, c ≠ z → c ≠ TO → c ≠ u1.it → c ≠ u2.it → s.heap.get? c = some o → h'.get? c = some o) → Q (.ref s.heap.objs.size) { s with heap := h' }) :
    wpAny (model prog w) A (Builtin.«zip.__next__» ⟨[.ref z], []⟩) (fun fin s' => ∃ v, fin = .done (.ret v) ∧ Q v s') E s := by
  obtain ⟨hz, hTI, ⟨a1, a2, hTO⟩, hu1, hu2⟩ := S
  show wpAny _ _ (field (.ref z) 2 >>= _) _ _ _
  refine wpAny_bind (wpAny_field hz rfl (x := .bool false) rfl ?_)
  show wpAny _ _ (field (.ref z) 3 >>= _) _ _ _
  refine wpAny_bind (wpAny_field hz rfl (x := .ref TI) rfl ?_)
  refine wpAny_bind (wpAny_seqItems hTI rfl ?_)
  show wpAny _ _ (Builtin.SmallTypes.ownedTupleIsFree (.ref z) >>= _) _ _ _
  refine wpAny_bind ?_
  unfold Builtin.SmallTypes.ownedTupleIsFree
  refine wpAny_bind (wpAny_field hz rfl (x := .none) rfl (wpAny_pure ?_))
  simp only [if_true]
  refine wpAny_bind (wpAny_rule ?_)
  refine wpAny_bind (wpAny_field hz rfl (x := .ref TO) rfl ?_)
  refine wpAny_bind (wpAny_setField_rec hz (by simp) fun p0 hz0 r0 => ?_)
  replace hz0 : IsZip p0 z TI TO .ellipsis := hz0
  have l0 : ∀ c o, c ≠ z → s.heap.get? c = some o → p0.get? c = some o := r0.extBut
  have t0 : IsTup2 p0 TO a1 a2 := l0 _ _ D.TOz hTO
  refine wpAny_bind ?_
  simp only [List.zipIdx_cons, List.zipIdx_nil, List.forIn_cons, List.forIn_nil]
  refine wpAny_bind (wpAny_bind (wpAny_onRaise ?_))
  show wpAny _ _ (Builtin.SmallTypes.nextOf (.ref u1.it) >>= _) _ _ _
  have k1 : SubAt u1 k p0 := hu1.keep (fun o e => l0 _ o D.u1z e) (fun o e => l0 _ o D.u1sz e)
  refine wpAny_bind (sub_item k1 D.u1s g1 fun p1 m1 r1 => wpAny_pure ?_)
  have t1 : IsTup2 p1 TO a1 a2 := r1.extBut _ _ D.u1TO t0
  refine wpAny_bind (wpAny_seqItems t1 rfl ?_)
  refine wpAny_bind (upd_tup2 t1 fun p2 t2 r2 => ?_)
  replace t2 : IsTup2 p2 TO x1 a2 := t2
  refine wpAny_bind (wpAny_letGo (wpAny_pure ?_))
  have l2 : ∀ c o, c ≠ z → c ≠ TO → c ≠ u1.it → s.heap.get? c = some o → p2.get? c = some o := fun c o c0 c1 c2 e => r2.extBut _ _ c1 (r1.extBut _ _ c2 (l0 c o c0 e))
  refine wpAny_bind (wpAny_bind (wpAny_onRaise ?_))
  show wpAny _ _ (Builtin.SmallTypes.nextOf (.ref u2.it) >>= _) _ _ _
  have k2 : SubAt u2 k p2 := hu2.keep (fun o e => l2 _ o D.u2z D.u2TO.symm D.u1u2.symm e) (fun o e => l2 _ o D.u2sz D.u2sTO D.u2su1 e)
  refine wpAny_bind (sub_item k2 D.u2s g2 fun p3 m2 r3 => wpAny_pure ?_)
  have t3 : IsTup2 p3 TO x1 a2 := r3.extBut _ _ D.u2TO t2
  refine wpAny_bind (wpAny_seqItems t3 rfl ?_)
  refine wpAny_bind (upd_tup2 t3 fun p4 t4 r4 => ?_)
  replace t4 : IsTup2 p4 TO x1 x2 := t4
  refine wpAny_bind (wpAny_letGo (wpAny_pure (wpAny_pure ?_)))
  have l4 : ∀ c o, c ≠ z → c ≠ TO → c ≠ u1.it → c ≠ u2.it → s.heap.get? c = some o → p4.get? c = some o := fun c o c0 c1 c2 c3 e => r4.extBut _ _ c1 (r3.extBut _ _ c3 (l2 c o c0 c1 c2 e))
  have hzL : IsZip p4 z TI TO .ellipsis := r4.extBut _ _ D.TOz.symm (r3.extBut _ _ D.u2z.symm (r2.extBut _ _ D.TOz.symm (r1.extBut _ _ D.u1z.symm (hz0))))
  have w1 : SubAt u1 (k + 1) p4 := (m1.keep (fun o e => r2.extBut _ o D.u1TO.symm e) (fun o e => r2.extBut _ o D.u1sTO e)).keep (fun o e => r4.extBut _ o D.u1TO.symm (r3.extBut _ o D.u1u2 e)) (fun o e => r4.extBut _ o D.u1sTO (r3.extBut _ o D.u1su2 e))
  have w2 : SubAt u2 (k + 1) p4 := m2.keep (fun o e => r4.extBut _ o D.u2TO.symm e) (fun o e => r4.extBut _ o D.u2sTO e)
  have hsz : p4.objs.size = s.heap.objs.size := by rw [r4.1, r3.1, r2.1, r1.1, r0.1]
  have hTIL : IsTup2 p4 TI (.ref u1.it) (.ref u2.it) := l4 _ _ D.TIz D.TITO D.u1TI D.u2TI hTI
  refine wpAny_bind (wpAny_seqItems t4 rfl ?_)
  refine wpAny_bind (wpAny_newTuple ?_)
  have zlt : z < p4.objs.size := Heap.lt_size hzL
  show wpAny _ _ (Builtin.SmallTypes.ownedTupleHandOut (.ref z) (.ref p4.objs.size) >>= _) _ _ _
  refine wpAny_bind ?_
  unfold Builtin.SmallTypes.ownedTupleHandOut
  have hz6 : IsZip (p4.push { cls := .type "tuple", data := .seq #[x1, x2] }) z TI TO .ellipsis := Heap.get?_push_of_some _ hzL
  refine wpAny_bind (wpAny_setField_rec hz6 (by simp) fun q7 hz7 s7 => ?_)
  replace hz7 : IsZip q7 z TI TO (rawInt p4.objs.size) := hz7
  refine wpAny_setField_rec hz7 (by simp) fun q8 hz8 s8 => ?_
  replace hz8 : IsZip q8 z TI TO (rawInt p4.objs.size) := hz8
  have up : ∀ c o, c ≠ z → p4.get? c = some o → q8.get? c = some o := fun c o c1 e => s8.extBut _ _ c1 (s7.extBut _ _ c1 (Heap.get?_push_of_some _ e))
  have hT8 : IsTup2 q8 p4.objs.size x1 x2 := s8.extBut _ _ (Nat.ne_of_gt zlt) (s7.extBut _ _ (Nat.ne_of_gt zlt) (Heap.get?_push_size _ rfl))
  have z8 : q8.objs.size = p4.objs.size + 1 := by rw [s8.1, s7.1, Heap.size_push]
  rw [hsz] at hz8 hT8 z8
  refine wpAny_pure ⟨_, rfl, ?_⟩
  show Q (.ref p4.objs.size) _
  rw [hsz]
  exact hQ q8 ⟨hz8, up _ _ D.TIz hTIL, ⟨_, _, up _ _ D.TOz t4⟩, w1.keep (fun o e => up _ o D.u1z e) (fun o e => up _ o D.u1sz e), w2.keep (fun o e => up _ o D.u2z e) (fun o e => up _ o D.u2sz e)⟩ hT8 z8
    fun c o c0 c1 c2 c3 e => up c o c0 (l4 c o c0 c1 c2 c3 e)
end

/-- zip over 3: the object, its tuple of iterators, its own result tuple -/
structure ZAp3 (z TI TO : Addr) (u1 u2 u3 : Sub) : Prop where
  TIz : TI ≠ z
  TOz : TO ≠ z
  TITO : TI ≠ TO
  u1z : u1.it ≠ z
  u1TI : TI ≠ u1.it
  u1TO : TO ≠ u1.it
  u1s : u1.src ≠ u1.it
  u1sz : u1.src ≠ z
  u1sTO : u1.src ≠ TO
  u2z : u2.it ≠ z
  u2TI : TI ≠ u2.it
  u2TO : TO ≠ u2.it
  u2s : u2.src ≠ u2.it
  u2sz : u2.src ≠ z
  u2sTO : u2.src ≠ TO
  u3z : u3.it ≠ z
  u3TI : TI ≠ u3.it
  u3TO : TO ≠ u3.it
  u3s : u3.src ≠ u3.it
  u3sz : u3.src ≠ z
  u3sTO : u3.src ≠ TO
  u1u2 : u1.it ≠ u2.it
  u1su2 : u1.src ≠ u2.it
  u1u3 : u1.it ≠ u3.it
  u1su3 : u1.src ≠ u3.it
  u2su1 : u2.src ≠ u1.it
  u2u3 : u2.it ≠ u3.it
  u2su3 : u2.src ≠ u3.it
  u3su1 : u3.src ≠ u1.it
  u3su2 : u3.src ≠ u2.it
abbrev IsTup3 (h : Heap) (T : Addr) (a1 a2 a3 : Value) : Prop := h.get? T = some { cls := .type "tuple", data := .seq #[a1, a2, a3] }
structure ZSt3 (z TI TO : Addr) (u1 u2 u3 : Sub) (k : Nat) (f0 : Value) (h : Heap) : Prop where
  hz : IsZip h z TI TO f0
  hTI : IsTup3 h TI (.ref u1.it) (.ref u2.it) (.ref u3.it)
  hTO : ∃ a1 a2 a3, IsTup3 h TO a1 a2 a3
  hu1 : SubAt u1 k h
  hu2 : SubAt u2 k h
  hu3 : SubAt u3 k h

section
variable {prog : Program} {w : World} {A : Around} {E : Value → Shared → Prop} {s : Shared}
theorem upd_tup3 {T : Addr} {a1 a2 a3 x : Value} {k : Nat} {Q : Unit → Shared → Prop} (hT : IsTup3 s.heap T a1 a2 a3)
    (h : ∀ h', h'.get? T = some { cls := .type "tuple", data := .seq ((#[a1, a2, a3] : Array Value).setIfInBounds k x) } → Heap.SameBut T s.heap h' → Q () { s with heap := h' }) :
    wpAny (model prog w) A (updateSeq T (·.setIfInBounds k x)) Q E s := by
  refine wpAny_updateSeq hT rfl (h _ ?_ (Heap.SameBut.update ..))
  rw [Heap.get?_update_self _ hT rfl]
  simp [Obj.mapSeq]
theorem zip3_item {z TI TO : Addr} {u1 u2 u3 : Sub} {k : Nat} {x1 x2 x3 : Value} {Q : Value → Shared → Prop} (D : ZAp3 z TI TO u1 u2 u3) (S : ZSt3 z TI TO u1 u2 u3 k .none s.heap)
    (g1 : u1.xs[k]? = some x1) (g2 : u2.xs[k]? = some x2) (g3 : u3.xs[k]? = some x3)
    (hQ : ∀ h', ZSt3 z TI TO u1 u2 u3 (k + 1) (rawInt s.heap.objs.size) h' → IsTup3 h' s.heap.objs.size x1 x2 x3 → h'.objs.size = s.heap.objs.size + 1 →
      (∀ c o, c ≠ z → c ≠ TO → c ≠ u1.it → c ≠ u2.it → c ≠ u3.it → s.heap.get? c = some o → h'.get? c = some o) → Q (.ref s.heap.objs.size) { s with heap := h' }) :
    wpAny (model prog w) A (Builtin.«zip.__next__» ⟨[.ref z], []⟩) (fun fin s' => ∃ v, fin = .done (.ret v) ∧ Q v s') E s := by
  obtain ⟨hz, hTI, ⟨a1, a2, a3, hTO⟩, hu1, hu2, hu3⟩ := S
  show wpAny _ _ (field (.ref z) 2 >>= _) _ _ _
  refine wpAny_bind (wpAny_field hz rfl (x := .bool false) rfl ?_)
  show wpAny _ _ (field (.ref z) 3 >>= _) _ _ _
  refine wpAny_bind (wpAny_field hz rfl (x := .ref TI) rfl ?_)
  refine wpAny_bind (wpAny_seqItems hTI rfl ?_)
  show wpAny _ _ (Builtin.SmallTypes.ownedTupleIsFree (.ref z) >>= _) _ _ _
  refine wpAny_bind ?_
  unfold Builtin.SmallTypes.ownedTupleIsFree
  refine wpAny_bind (wpAny_field hz rfl (x := .none) rfl (wpAny_pure ?_))
  simp only [if_true]
  refine wpAny_bind (wpAny_rule ?_)
  refine wpAny_bind (wpAny_field hz rfl (x := .ref TO) rfl ?_)
  refine wpAny_bind (wpAny_setField_rec hz (by simp) fun p0 hz0 r0 => ?_)
  replace hz0 : IsZip p0 z TI TO .ellipsis := hz0
  have l0 : ∀ c o, c ≠ z → s.heap.get? c = some o → p0.get? c = some o := r0.extBut
  have t0 : IsTup3 p0 TO a1 a2 a3 := l0 _ _ D.TOz hTO
  refine wpAny_bind ?_
  simp only [List.zipIdx_cons, List.zipIdx_nil, List.forIn_cons, List.forIn_nil]
  refine wpAny_bind (wpAny_bind (wpAny_onRaise ?_))
  show wpAny _ _ (Builtin.SmallTypes.nextOf (.ref u1.it) >>= _) _ _ _
  have k1 : SubAt u1 k p0 := hu1.keep (fun o e => l0 _ o D.u1z e) (fun o e => l0 _ o D.u1sz e)
  refine wpAny_bind (sub_item k1 D.u1s g1 fun p1 m1 r1 => wpAny_pure ?_)
  have t1 : IsTup3 p1 TO a1 a2 a3 := r1.extBut _ _ D.u1TO t0
  refine wpAny_bind (wpAny_seqItems t1 rfl ?_)
  refine wpAny_bind (upd_tup3 t1 fun p2 t2 r2 => ?_)
  replace t2 : IsTup3 p2 TO x1 a2 a3 := t2
  refine wpAny_bind (wpAny_letGo (wpAny_pure ?_))
  have l2 : ∀ c o, c ≠ z → c ≠ TO → c ≠ u1.it → s.heap.get? c = some o → p2.get? c = some o := fun c o c0 c1 c2 e => r2.extBut _ _ c1 (r1.extBut _ _ c2 (l0 c o c0 e))
  refine wpAny_bind (wpAny_bind (wpAny_onRaise ?_))
  show wpAny _ _ (Builtin.SmallTypes.nextOf (.ref u2.it) >>= _) _ _ _
  have k2 : SubAt u2 k p2 := hu2.keep (fun o e => l2 _ o D.u2z D.u2TO.symm D.u1u2.symm e) (fun o e => l2 _ o D.u2sz D.u2sTO D.u2su1 e)
  refine wpAny_bind (sub_item k2 D.u2s g2 fun p3 m2 r3 => wpAny_pure ?_)
  have t3 : IsTup3 p3 TO x1 a2 a3 := r3.extBut _ _ D.u2TO t2
  refine wpAny_bind (wpAny_seqItems t3 rfl ?_)
  refine wpAny_bind (upd_tup3 t3 fun p4 t4 r4 => ?_)
  replace t4 : IsTup3 p4 TO x1 x2 a3 := t4
  refine wpAny_bind (wpAny_letGo (wpAny_pure ?_))
  have l4 : ∀ c o, c ≠ z → c ≠ TO → c ≠ u1.it → c ≠ u2.it → s.heap.get? c = some o → p4.get? c = some o := fun c o c0 c1 c2 c3 e => r4.extBut _ _ c1 (r3.extBut _ _ c3 (l2 c o c0 c1 c2 e))
  refine wpAny_bind (wpAny_bind (wpAny_onRaise ?_))
  show wpAny _ _ (Builtin.SmallTypes.nextOf (.ref u3.it) >>= _) _ _ _
  have k3 : SubAt u3 k p4 := hu3.keep (fun o e => l4 _ o D.u3z D.u3TO.symm D.u1u3.symm D.u2u3.symm e) (fun o e => l4 _ o D.u3sz D.u3sTO D.u3su1 D.u3su2 e)
  refine wpAny_bind (sub_item k3 D.u3s g3 fun p5 m3 r5 => wpAny_pure ?_)
  have t5 : IsTup3 p5 TO x1 x2 a3 := r5.extBut _ _ D.u3TO t4
  refine wpAny_bind (wpAny_seqItems t5 rfl ?_)
  refine wpAny_bind (upd_tup3 t5 fun p6 t6 r6 => ?_)
  replace t6 : IsTup3 p6 TO x1 x2 x3 := t6
  refine wpAny_bind (wpAny_letGo (wpAny_pure (wpAny_pure ?_)))
  have l6 : ∀ c o, c ≠ z → c ≠ TO → c ≠ u1.it → c ≠ u2.it → c ≠ u3.it → s.heap.get? c = some o → p6.get? c = some o := fun c o c0 c1 c2 c3 c4 e => r6.extBut _ _ c1 (r5.extBut _ _ c4 (l4 c o c0 c1 c2 c3 e))
  have hzL : IsZip p6 z TI TO .ellipsis := r6.extBut _ _ D.TOz.symm (r5.extBut _ _ D.u3z.symm (r4.extBut _ _ D.TOz.symm (r3.extBut _ _ D.u2z.symm (r2.extBut _ _ D.TOz.symm (r1.extBut _ _ D.u1z.symm (hz0))))))
  have w1 : SubAt u1 (k + 1) p6 := ((m1.keep (fun o e => r2.extBut _ o D.u1TO.symm e) (fun o e => r2.extBut _ o D.u1sTO e)).keep (fun o e => r4.extBut _ o D.u1TO.symm (r3.extBut _ o D.u1u2 e)) (fun o e => r4.extBut _ o D.u1sTO (r3.extBut _ o D.u1su2 e))).keep (fun o e => r6.extBut _ o D.u1TO.symm (r5.extBut _ o D.u1u3 e)) (fun o e => r6.extBut _ o D.u1sTO (r5.extBut _ o D.u1su3 e))
  have w2 : SubAt u2 (k + 1) p6 := (m2.keep (fun o e => r4.extBut _ o D.u2TO.symm e) (fun o e => r4.extBut _ o D.u2sTO e)).keep (fun o e => r6.extBut _ o D.u2TO.symm (r5.extBut _ o D.u2u3 e)) (fun o e => r6.extBut _ o D.u2sTO (r5.extBut _ o D.u2su3 e))
  have w3 : SubAt u3 (k + 1) p6 := m3.keep (fun o e => r6.extBut _ o D.u3TO.symm e) (fun o e => r6.extBut _ o D.u3sTO e)
  have hsz : p6.objs.size = s.heap.objs.size := by rw [r6.1, r5.1, r4.1, r3.1, r2.1, r1.1, r0.1]
  have hTIL : IsTup3 p6 TI (.ref u1.it) (.ref u2.it) (.ref u3.it) := l6 _ _ D.TIz D.TITO D.u1TI D.u2TI D.u3TI hTI
  refine wpAny_bind (wpAny_seqItems t6 rfl ?_)
  refine wpAny_bind (wpAny_newTuple ?_)
  have zlt : z < p6.objs.size := Heap.lt_size hzL
  show wpAny _ _ (Builtin.SmallTypes.ownedTupleHandOut (.ref z) (.ref p6.objs.size) >>= _) _ _ _
  refine wpAny_bind ?_
  unfold Builtin.SmallTypes.ownedTupleHandOut
  have hz6 : IsZip (p6.push { cls := .type "tuple", data := .seq #[x1, x2, x3] }) z TI TO .ellipsis := Heap.get?_push_of_some _ hzL
  refine wpAny_bind (wpAny_setField_rec hz6 (by simp) fun q7 hz7 s7 => ?_)
  replace hz7 : IsZip q7 z TI TO (rawInt p6.objs.size) := hz7
  refine wpAny_setField_rec hz7 (by simp) fun q8 hz8 s8 => ?_
  replace hz8 : IsZip q8 z TI TO (rawInt p6.objs.size) := hz8
  have up : ∀ c o, c ≠ z → p6.get? c = some o → q8.get? c = some o := fun c o c1 e => s8.extBut _ _ c1 (s7.extBut _ _ c1 (Heap.get?_push_of_some _ e))
  have hT8 : IsTup3 q8 p6.objs.size x1 x2 x3 := s8.extBut _ _ (Nat.ne_of_gt zlt) (s7.extBut _ _ (Nat.ne_of_gt zlt) (Heap.get?_push_size _ rfl))
  have z8 : q8.objs.size = p6.objs.size + 1 := by rw [s8.1, s7.1, Heap.size_push]
  rw [hsz] at hz8 hT8 z8
  refine wpAny_pure ⟨_, rfl, ?_⟩
  show Q (.ref p6.objs.size) _
  rw [hsz]
  exact hQ q8 ⟨hz8, up _ _ D.TIz hTIL, ⟨_, _, _, up _ _ D.TOz t6⟩, w1.keep (fun o e => up _ o D.u1z e) (fun o e => up _ o D.u1sz e), w2.keep (fun o e => up _ o D.u2z e) (fun o e => up _ o D.u2sz e), w3.keep (fun o e => up _ o D.u3z e) (fun o e => up _ o D.u3sz e)⟩ hT8 z8
    fun c o c0 c1 c2 c3 c4 e => up c o c0 (l6 c o c0 c1 c2 c3 c4 e)
end
end
section
open PySem PySem.W PyProof.Rows PySem.Spec PySem.Calls
set_option linter.unusedVariables false

section
variable {prog : Program} {w : World} {A : Around} {E : Value → Shared → Prop} {s : Shared}
theorem zip2_end {z TI TO : Addr} {u1 u2 : Sub} {k : Nat} {Q : Fin → Shared → Prop} (hh : A.handled = none) (D : ZAp2 z TI TO u1 u2) (S : ZSt2 z TI TO u1 u2 k .none s.heap) (g : u1.xs[k]? = none)
    (hE : ∀ h' e, (∀ c o, c ≠ z → c ≠ TO → c ≠ u1.it → c ≠ u2.it → s.heap.get? c = some o → h'.get? c = some o) → (∃ o, h'.get? e = some o ∧ o.cls = .type "StopIteration") → E (.ref e) { s with heap := h' }) :
    wpAny (model prog w) A (Builtin.«zip.__next__» ⟨[.ref z], []⟩) Q E s := by
  obtain ⟨hz, hTI, ⟨a1, a2, hTO⟩, hu1, hu2⟩ := S
  show wpAny _ _ (field (.ref z) 2 >>= _) _ _ _
  refine wpAny_bind (wpAny_field hz rfl (x := .bool false) rfl ?_)
  show wpAny _ _ (field (.ref z) 3 >>= _) _ _ _
  refine wpAny_bind (wpAny_field hz rfl (x := .ref TI) rfl ?_)
  refine wpAny_bind (wpAny_seqItems hTI rfl ?_)
  show wpAny _ _ (Builtin.SmallTypes.ownedTupleIsFree (.ref z) >>= _) _ _ _
  refine wpAny_bind ?_
  unfold Builtin.SmallTypes.ownedTupleIsFree
  refine wpAny_bind (wpAny_field hz rfl (x := .none) rfl (wpAny_pure ?_))
  simp only [if_true]
  refine wpAny_bind (wpAny_rule ?_)
  refine wpAny_bind (wpAny_field hz rfl (x := .ref TO) rfl ?_)
  refine wpAny_bind (wpAny_setField_rec hz (by simp) fun p0 hz0 r0 => ?_)
  replace hz0 : IsZip p0 z TI TO .ellipsis := hz0
  refine wpAny_bind ?_
  simp only [List.zipIdx_cons, List.zipIdx_nil, List.forIn_cons, List.forIn_nil]
  refine wpAny_bind (wpAny_bind (wpAny_onRaise ?_))
  show wpAny _ _ (Builtin.SmallTypes.nextOf (.ref u1.it) >>= _) _ _ _
  have k1 : SubAt u1 k p0 := hu1.keep (fun o e => r0.extBut _ o D.u1z e) (fun o e => r0.extBut _ o D.u1sz e)
  refine wpAny_bind (sub_end hh k1 g fun p1 e r1 he => ?_)
  obtain ⟨oe, hoe, hce⟩ := he
  have hz1 : IsZip p1 z TI TO .ellipsis := r1 _ _ D.u1z.symm hz0
  have hez : e ≠ z := fun x => by subst x; rw [hz1] at hoe; cases hoe; simp at hce
  exact wpAny_setField_rec hz1 (by simp) fun p2 _ r2 => hE p2 e (fun c o c0 c1 c2 c3 x => r2.extBut _ _ c0 (r1 _ _ c2 (r0.extBut _ _ c0 x))) ⟨oe, r2.extBut _ _ hez hoe, hce⟩
theorem next2_item {z TI TO : Addr} {u1 u2 : Sub} {k : Nat} {x1 x2 : Value} {Q : Option Value → Shared → Prop} (D : ZAp2 z TI TO u1 u2) (S : ZSt2 z TI TO u1 u2 k .none s.heap)
    (g1 : u1.xs[k]? = some x1) (g2 : u2.xs[k]? = some x2)
    (hQ : ∀ h', ZSt2 z TI TO u1 u2 (k + 1) (rawInt s.heap.objs.size) h' → IsTup2 h' s.heap.objs.size x1 x2 → h'.objs.size = s.heap.objs.size + 1 →
      (∀ c o, c ≠ z → c ≠ TO → c ≠ u1.it → c ≠ u2.it → s.heap.get? c = some o → h'.get? c = some o) → Q (some (.ref s.heap.objs.size)) { s with heap := h' }) :
    wpAny (model prog w) A (pyNext (.ref z)) Q E s := by
  have hT : s.TypeIs (.ref z) "zip" := ⟨_, S.hz, rfl⟩
  unfold pyNext
  exact wpAny_bind (wpAny_attempt (wpAny_callSpecial?_slot (name := Str.ofString "__next__") hT F.slot_zip_next
    (wpAny_call_entry F.slot_zip_next hT F.entry_zip_next
      (zip2_item D S g1 g2 fun h' a1 a2 a3 a4 => wpAny_pure (hQ h' a1 a2 a3 a4)) (F.args_zip_next_1 _))))
theorem next2_end {z TI TO : Addr} {u1 u2 : Sub} {k : Nat} {Q : Option Value → Shared → Prop} (hh : A.handled = none) (D : ZAp2 z TI TO u1 u2) (S : ZSt2 z TI TO u1 u2 k .none s.heap) (g : u1.xs[k]? = none)
    (hQ : ∀ h', (∀ c o, c ≠ z → c ≠ TO → c ≠ u1.it → c ≠ u2.it → s.heap.get? c = some o → h'.get? c = some o) → Q none { s with heap := h' }) : wpAny (model prog w) A (pyNext (.ref z)) Q E s := by
  have hT : s.TypeIs (.ref z) "zip" := ⟨_, S.hz, rfl⟩
  unfold pyNext
  refine wpAny_bind (wpAny_attempt (wpAny_callSpecial?_slot (name := Str.ofString "__next__") hT F.slot_zip_next
    (wpAny_call_entry F.slot_zip_next hT F.entry_zip_next (zip2_end hh D S g fun h' e hk he => ?_) (F.args_zip_next_1 _))))
  obtain ⟨o, ho, hc⟩ := he
  refine wpAny_bind (wpAny_isInstance (T := "StopIteration") (b := true) ⟨o, ho, hc⟩ isSubtype_stop ?_)
  exact wpAny_pure (hQ _ hk)
end

section
variable {prog : Program} {w : World} {A : Around} {E : Value → Shared → Prop} {s : Shared}
theorem zip3_end {z TI TO : Addr} {u1 u2 u3 : Sub} {k : Nat} {Q : Fin → Shared → Prop} (hh : A.handled = none) (D : ZAp3 z TI TO u1 u2 u3) (S : ZSt3 z TI TO u1 u2 u3 k .none s.heap) (g : u1.xs[k]? = none)
    (hE : ∀ h' e, (∀ c o, c ≠ z → c ≠ TO → c ≠ u1.it → c ≠ u2.it → c ≠ u3.it → s.heap.get? c = some o → h'.get? c = some o) → (∃ o, h'.get? e = some o ∧ o.cls = .type "StopIteration") → E (.ref e) { s with heap := h' }) :
    wpAny (model prog w) A (Builtin.«zip.__next__» ⟨[.ref z], []⟩) Q E s := by
  obtain ⟨hz, hTI, ⟨a1, a2, a3, hTO⟩, hu1, hu2, hu3⟩ := S
  show wpAny _ _ (field (.ref z) 2 >>= _) _ _ _
  refine wpAny_bind (wpAny_field hz rfl (x := .bool false) rfl ?_)
  show wpAny _ _ (field (.ref z) 3 >>= _) _ _ _
  refine wpAny_bind (wpAny_field hz rfl (x := .ref TI) rfl ?_)
  refine wpAny_bind (wpAny_seqItems hTI rfl ?_)
  show wpAny _ _ (Builtin.SmallTypes.ownedTupleIsFree (.ref z) >>= _) _ _ _
  refine wpAny_bind ?_
  unfold Builtin.SmallTypes.ownedTupleIsFree
  refine wpAny_bind (wpAny_field hz rfl (x := .none) rfl (wpAny_pure ?_))
  simp only [if_true]
  refine wpAny_bind (wpAny_rule ?_)
  refine wpAny_bind (wpAny_field hz rfl (x := .ref TO) rfl ?_)
  refine wpAny_bind (wpAny_setField_rec hz (by simp) fun p0 hz0 r0 => ?_)
  replace hz0 : IsZip p0 z TI TO .ellipsis := hz0
  refine wpAny_bind ?_
  simp only [List.zipIdx_cons, List.zipIdx_nil, List.forIn_cons, List.forIn_nil]
  refine wpAny_bind (wpAny_bind (wpAny_onRaise ?_))
  show wpAny _ _ (Builtin.SmallTypes.nextOf (.ref u1.it) >>= _) _ _ _
  have k1 : SubAt u1 k p0 := hu1.keep (fun o e => r0.extBut _ o D.u1z e) (fun o e => r0.extBut _ o D.u1sz e)
  refine wpAny_bind (sub_end hh k1 g fun p1 e r1 he => ?_)
  obtain ⟨oe, hoe, hce⟩ := he
  have hz1 : IsZip p1 z TI TO .ellipsis := r1 _ _ D.u1z.symm hz0
  have hez : e ≠ z := fun x => by subst x; rw [hz1] at hoe; cases hoe; simp at hce
  exact wpAny_setField_rec hz1 (by simp) fun p2 _ r2 => hE p2 e (fun c o c0 c1 c2 c3 c4 x => r2.extBut _ _ c0 (r1 _ _ c2 (r0.extBut _ _ c0 x))) ⟨oe, r2.extBut _ _ hez hoe, hce⟩
theorem next3_item {z TI TO : Addr} {u1 u2 u3 : Sub} {k : Nat} {x1 x2 x3 : Value} {Q : Option Value → Shared → Prop} (D : ZAp3 z TI TO u1 u2 u3) (S : ZSt3 z TI TO u1 u2 u3 k .none s.heap)
    (g1 : u1.xs[k]? = some x1) (g2 : u2.xs[k]? = some x2) (g3 : u3.xs[k]? = some x3)
    (hQ : ∀ h', ZSt3 z TI TO u1 u2 u3 (k + 1) (rawInt s.heap.objs.size) h' → IsTup3 h' s.heap.objs.size x1 x2 x3 → h'.objs.size = s.heap.objs.size + 1 →
      (∀ c o, c ≠ z → c ≠ TO → c ≠ u1.it → c ≠ u2.it → c ≠ u3.it → s.heap.get? c = some o → h'.get? c = some o) → Q (some (.ref s.heap.objs.size)) { s with heap := h' }) :
    wpAny (model prog w) A (pyNext (.ref z)) Q E s := by
  have hT : s.TypeIs (.ref z) "zip" := ⟨_, S.hz, rfl⟩
  unfold pyNext
  exact wpAny_bind (wpAny_attempt (wpAny_callSpecial?_slot (name := Str.ofString "__next__") hT F.slot_zip_next
    (wpAny_call_entry F.slot_zip_next hT F.entry_zip_next
      (zip3_item D S g1 g2 g3 fun h' a1 a2 a3 a4 => wpAny_pure (hQ h' a1 a2 a3 a4)) (F.args_zip_next_1 _))))
theorem next3_end {z TI TO : Addr} {u1 u2 u3 : Sub} {k : Nat} {Q : Option Value → Shared → Prop} (hh : A.handled = none) (D : ZAp3 z TI TO u1 u2 u3) (S : ZSt3 z TI TO u1 u2 u3 k .none s.heap) (g : u1.xs[k]? = none)
    (hQ : ∀ h', (∀ c o, c ≠ z → c ≠ TO → c ≠ u1.it → c ≠ u2.it → c ≠ u3.it → s.heap.get? c = some o → h'.get? c = some o) → Q none { s with heap := h' }) : wpAny (model prog w) A (pyNext (.ref z)) Q E s := by
  have hT : s.TypeIs (.ref z) "zip" := ⟨_, S.hz, rfl⟩
  unfold pyNext
  refine wpAny_bind (wpAny_attempt (wpAny_callSpecial?_slot (name := Str.ofString "__next__") hT F.slot_zip_next
    (wpAny_call_entry F.slot_zip_next hT F.entry_zip_next (zip3_end hh D S g fun h' e hk he => ?_) (F.args_zip_next_1 _))))
  obtain ⟨o, ho, hc⟩ := he
  refine wpAny_bind (wpAny_isInstance (T := "StopIteration") (b := true) ⟨o, ho, hc⟩ isSubtype_stop ?_)
  exact wpAny_pure (hQ _ hk)
theorem typeCall_zip_3 (a b c : Value) : checkTypeCall "zip" ⟨[a, b, c], []⟩ = pure () := by kernel_rfl
theorem newCall_zip_3 (a b c : Value) : checkBuiltinCall "zip.__new__" ⟨[.type "zip", a, b, c], []⟩ = pure () := by kernel_rfl
theorem args_object_init_4 (a b c d : Value) : argsOk "object.__init__" ⟨[a, b, c, d], []⟩ := by
  unfold argsOk; rw [signature?_of (id := "object.__init__") (n := ['_', '_', 't', 'i', 'n', 'i', '_', '_']) (o := ['t', 'c', 'e', 'j', 'b', 'o']) (by kernel_rfl) F.owner_object]; kernel_rfl
end
end
section
open PySem PySem.W PyProof.Rows PySem.Spec PySem.Calls
set_option linter.unusedVariables false
theorem pyIter_src {prog : Program} {w : World} {A : Around} {E : Value → Shared → Prop} {s : Shared} {l : Addr} {xs : Array Value} {b : Bool} {Q : Value → Shared → Prop} (h : SrcOk l xs b s.heap)
    (hQ : Q (.ref s.heap.objs.size) { s with heap := s.heap.push (itObj l b) }) : wpAny (model prog w) A (pyIter (.ref l)) Q E s := by
  rcases h with ⟨e, c⟩ | ⟨e, c⟩
  · subst e; exact wpAny_pyIter_tuple c hQ
  · subst e; exact wpAny_pyIter_list c hQ
abbrev yH2_0 (h : Heap) (l1 l2 : Addr) (b1 b2 : Bool) : Heap := h
abbrev yH2_1 (h : Heap) (l1 l2 : Addr) (b1 b2 : Bool) : Heap := (yH2_0 h l1 l2 b1 b2).push (itObj l1 b1)
abbrev yH2_2 (h : Heap) (l1 l2 : Addr) (b1 b2 : Bool) : Heap := (yH2_1 h l1 l2 b1 b2).push (itObj l2 b2)
abbrev yTI2 (h : Heap) (l1 l2 : Addr) (b1 b2 : Bool) : Heap := (yH2_2 h l1 l2 b1 b2).push { cls := .type "tuple", data := .seq #[.ref (yH2_0 h l1 l2 b1 b2).objs.size, .ref (yH2_1 h l1 l2 b1 b2).objs.size] }
abbrev yTO2 (h : Heap) (l1 l2 : Addr) (b1 b2 : Bool) : Heap := (yTI2 h l1 l2 b1 b2).push { cls := .type "tuple", data := .seq #[.none, .none] }
abbrev yZ2 (h : Heap) (l1 l2 : Addr) (b1 b2 : Bool) : Heap := (yTO2 h l1 l2 b1 b2).push { cls := .type "zip", data := .fields #[.none, .bool false, .bool false, .ref (yH2_2 h l1 l2 b1 b2).objs.size, .ref (yTI2 h l1 l2 b1 b2).objs.size] }
theorem meets_zip2 (l1 l2 : Addr) (xs1 xs2 : Array Value) (b1 b2 : Bool) :
    Meets (Builtin.«zip.__new__» ⟨[.type "zip", .ref l1, .ref l2], []⟩) (fun _ R s => SrcOk l1 xs1 b1 s.heap ∧ SrcOk l2 xs2 b2 s.heap ∧
      R (.ok (.ret (.ref (yTO2 s.heap l1 l2 b1 b2).objs.size))) { s with heap := yZ2 s.heap l1 l2 b1 b2 }) :=
  .of_wp fun prog w A R s h => by
    obtain ⟨hp, g, d, tk, os⟩ := s
    obtain ⟨h1, h2, h⟩ := h
    have hsub := sub_zip
    have d1 : SrcOk l1 xs1 b1 (Shared.heap ⟨hp, g, d, tk, os⟩) := h1
    have d2 : SrcOk l2 xs2 b2 (Shared.heap ⟨(hp.push (itObj l1 b1)), g, d, tk, os⟩) := SrcOk.keep (h2) (fun o e => Heap.get?_push_of_some _ e)
    wp_walk using pyIter_src d1, pyIter_src d2
    exact ⟨_, rfl, h⟩
theorem call_zip2 {prog : Program} {w : World} {A : Around} {E : Value → Shared → Prop} {s : Shared} {l1 l2 : Addr} {xs1 xs2 : Array Value} {b1 b2 : Bool} {Q : Value → Shared → Prop} (h1 : SrcOk l1 xs1 b1 s.heap) (h2 : SrcOk l2 xs2 b2 s.heap)
    (h : ∀ h', ZAp2 (s.heap.objs.size + 4) (s.heap.objs.size + 2) (s.heap.objs.size + 3) ⟨s.heap.objs.size, l1, xs1, b1⟩ ⟨(s.heap.objs.size + 1), l2, xs2, b2⟩ → ZSt2 (s.heap.objs.size + 4) (s.heap.objs.size + 2) (s.heap.objs.size + 3) ⟨s.heap.objs.size, l1, xs1, b1⟩ ⟨(s.heap.objs.size + 1), l2, xs2, b2⟩ 0 .none h' →
      h'.objs.size = s.heap.objs.size + 5 → (∀ c o, s.heap.get? c = some o → h'.get? c = some o) → Q (.ref (s.heap.objs.size + 4)) { s with heap := h' }) :
    wpAny (model prog w) A (call (.type "zip") [.ref l1, .ref l2]) Q E s := by
  refine callType_new F.called_zip (by decide) (F.typeCall_zip_2 _ _) (F.newCall_zip_2 _ _) (fun obj => F.args_object_init_3 obj _ _) F.entry_zip_new
    (meets_zip2 l1 l2 xs1 xs2 b1 b2) ⟨h1, h2, ?_⟩
  have z1 : (yH2_1 s.heap l1 l2 b1 b2).objs.size = s.heap.objs.size + 1 := by rw [Heap.size_push]
  have z2 : (yH2_2 s.heap l1 l2 b1 b2).objs.size = s.heap.objs.size + 2 := by rw [Heap.size_push, z1]
  have zI : (yTI2 s.heap l1 l2 b1 b2).objs.size = s.heap.objs.size + 3 := by rw [Heap.size_push, z2]
  have zO : (yTO2 s.heap l1 l2 b1 b2).objs.size = s.heap.objs.size + 4 := by rw [Heap.size_push, zI]
  have zZ : (yZ2 s.heap l1 l2 b1 b2).objs.size = s.heap.objs.size + 5 := by rw [Heap.size_push, zO]
  have gZ : (yZ2 s.heap l1 l2 b1 b2).get? (yTO2 s.heap l1 l2 b1 b2).objs.size = some _ := Heap.get?_push_size _ rfl
  have gO : (yZ2 s.heap l1 l2 b1 b2).get? (yTI2 s.heap l1 l2 b1 b2).objs.size = some _ := Heap.get?_push_of_some _ (Heap.get?_push_size _ rfl)
  have gI : (yZ2 s.heap l1 l2 b1 b2).get? (yH2_2 s.heap l1 l2 b1 b2).objs.size = some _ := Heap.get?_push_of_some _ (Heap.get?_push_of_some _ (Heap.get?_push_size _ rfl))
  have keep : ∀ c o, s.heap.get? c = some o → (yZ2 s.heap l1 l2 b1 b2).get? c = some o := fun c o x => Heap.get?_push_of_some _ (Heap.get?_push_of_some _ (Heap.get?_push_of_some _ (Heap.get?_push_of_some _ (Heap.get?_push_of_some _ (x)))))
  have s1 : SubAt ⟨(yH2_0 s.heap l1 l2 b1 b2).objs.size, l1, xs1, b1⟩ 0 (yZ2 s.heap l1 l2 b1 b2) := by
    rcases h1 with ⟨e, ⟨p, c, d⟩⟩ | ⟨e, ⟨p, c, d⟩⟩
    · subst e
      exact .inl ⟨rfl, ⟨_, Heap.get?_push_of_some _ (Heap.get?_push_of_some _ (Heap.get?_push_of_some _ (Heap.get?_push_of_some _ (Heap.get?_push_size _ rfl)))), rfl, rfl⟩, p, keep _ _ c, d⟩
    · subst e
      exact .inr ⟨rfl, ⟨_, Heap.get?_push_of_some _ (Heap.get?_push_of_some _ (Heap.get?_push_of_some _ (Heap.get?_push_of_some _ (Heap.get?_push_size _ rfl)))), rfl, rfl⟩, p, keep _ _ c, d⟩
  have s2 : SubAt ⟨(yH2_1 s.heap l1 l2 b1 b2).objs.size, l2, xs2, b2⟩ 0 (yZ2 s.heap l1 l2 b1 b2) := by
    rcases h2 with ⟨e, ⟨p, c, d⟩⟩ | ⟨e, ⟨p, c, d⟩⟩
    · subst e
      exact .inl ⟨rfl, ⟨_, Heap.get?_push_of_some _ (Heap.get?_push_of_some _ (Heap.get?_push_of_some _ (Heap.get?_push_size _ rfl))), rfl, rfl⟩, p, keep _ _ c, d⟩
    · subst e
      exact .inr ⟨rfl, ⟨_, Heap.get?_push_of_some _ (Heap.get?_push_of_some _ (Heap.get?_push_of_some _ (Heap.get?_push_size _ rfl))), rfl, rfl⟩, p, keep _ _ c, d⟩
  show _ ∧ _
  have q1 : @LT.lt Nat _ l1 s.heap.objs.size := h1.lt
  have q2 : @LT.lt Nat _ l2 s.heap.objs.size := h2.lt
  simp only [z1, z2, zI, zO] at gZ
  simp only [z1, z2, zI, zO] at gO
  simp only [z1, z2, zI, zO] at gI
  rw [z1] at s2
  rw [zO]
  refine ⟨⟨_, gZ, rfl⟩, h _ ⟨?_, ?_, ?_, ?_, ?_, ?_, ?_, ?_, ?_, ?_, ?_, ?_, ?_, ?_, ?_, ?_, ?_, ?_⟩ ⟨gZ, gI, ⟨_, _, gO⟩, s1, s2⟩ zZ keep⟩
  all_goals (refine neN ?_; (try dsimp only); omega)
abbrev yH3_0 (h : Heap) (l1 l2 l3 : Addr) (b1 b2 b3 : Bool) : Heap := h
abbrev yH3_1 (h : Heap) (l1 l2 l3 : Addr) (b1 b2 b3 : Bool) : Heap := (yH3_0 h l1 l2 l3 b1 b2 b3).push (itObj l1 b1)
abbrev yH3_2 (h : Heap) (l1 l2 l3 : Addr) (b1 b2 b3 : Bool) : Heap := (yH3_1 h l1 l2 l3 b1 b2 b3).push (itObj l2 b2)
abbrev yH3_3 (h : Heap) (l1 l2 l3 : Addr) (b1 b2 b3 : Bool) : Heap := (yH3_2 h l1 l2 l3 b1 b2 b3).push (itObj l3 b3)
abbrev yTI3 (h : Heap) (l1 l2 l3 : Addr) (b1 b2 b3 : Bool) : Heap := (yH3_3 h l1 l2 l3 b1 b2 b3).push { cls := .type "tuple", data := .seq #[.ref (yH3_0 h l1 l2 l3 b1 b2 b3).objs.size, .ref (yH3_1 h l1 l2 l3 b1 b2 b3).objs.size, .ref (yH3_2 h l1 l2 l3 b1 b2 b3).objs.size] }
abbrev yTO3 (h : Heap) (l1 l2 l3 : Addr) (b1 b2 b3 : Bool) : Heap := (yTI3 h l1 l2 l3 b1 b2 b3).push { cls := .type "tuple", data := .seq #[.none, .none, .none] }
abbrev yZ3 (h : Heap) (l1 l2 l3 : Addr) (b1 b2 b3 : Bool) : Heap := (yTO3 h l1 l2 l3 b1 b2 b3).push { cls := .type "zip", data := .fields #[.none, .bool false, .bool false, .ref (yH3_3 h l1 l2 l3 b1 b2 b3).objs.size, .ref (yTI3 h l1 l2 l3 b1 b2 b3).objs.size] }
theorem meets_zip3 (l1 l2 l3 : Addr) (xs1 xs2 xs3 : Array Value) (b1 b2 b3 : Bool) :
    Meets (Builtin.«zip.__new__» ⟨[.type "zip", .ref l1, .ref l2, .ref l3], []⟩) (fun _ R s => SrcOk l1 xs1 b1 s.heap ∧ SrcOk l2 xs2 b2 s.heap ∧ SrcOk l3 xs3 b3 s.heap ∧
      R (.ok (.ret (.ref (yTO3 s.heap l1 l2 l3 b1 b2 b3).objs.size))) { s with heap := yZ3 s.heap l1 l2 l3 b1 b2 b3 }) :=
  .of_wp fun prog w A R s h => by
    obtain ⟨hp, g, d, tk, os⟩ := s
    obtain ⟨h1, h2, h3, h⟩ := h
    have hsub := sub_zip
    have d1 : SrcOk l1 xs1 b1 (Shared.heap ⟨hp, g, d, tk, os⟩) := h1
    have d2 : SrcOk l2 xs2 b2 (Shared.heap ⟨(hp.push (itObj l1 b1)), g, d, tk, os⟩) := SrcOk.keep (h2) (fun o e => Heap.get?_push_of_some _ e)
    have d3 : SrcOk l3 xs3 b3 (Shared.heap ⟨((hp.push (itObj l1 b1)).push (itObj l2 b2)), g, d, tk, os⟩) := SrcOk.keep (SrcOk.keep (h3) (fun o e => Heap.get?_push_of_some _ e)) (fun o e => Heap.get?_push_of_some _ e)
    wp_walk using pyIter_src d1, pyIter_src d2, pyIter_src d3
    exact ⟨_, rfl, h⟩
theorem call_zip3 {prog : Program} {w : World} {A : Around} {E : Value → Shared → Prop} {s : Shared} {l1 l2 l3 : Addr} {xs1 xs2 xs3 : Array Value} {b1 b2 b3 : Bool} {Q : Value → Shared → Prop} (h1 : SrcOk l1 xs1 b1 s.heap) (h2 : SrcOk l2 xs2 b2 s.heap) (h3 : SrcOk l3 xs3 b3 s.heap)
    (h : ∀ h', ZAp3 (s.heap.objs.size + 5) (s.heap.objs.size + 3) (s.heap.objs.size + 4) ⟨s.heap.objs.size, l1, xs1, b1⟩ ⟨(s.heap.objs.size + 1), l2, xs2, b2⟩ ⟨(s.heap.objs.size + 2), l3, xs3, b3⟩ → ZSt3 (s.heap.objs.size + 5) (s.heap.objs.size + 3) (s.heap.objs.size + 4) ⟨s.heap.objs.size, l1, xs1, b1⟩ ⟨(s.heap.objs.size + 1), l2, xs2, b2⟩ ⟨(s.heap.objs.size + 2), l3, xs3, b3⟩ 0 .none h' →
      h'.objs.size = s.heap.objs.size + 6 → (∀ c o, s.heap.get? c = some o → h'.get? c = some o) → Q (.ref (s.heap.objs.size + 5)) { s with heap := h' }) :
    wpAny (model prog w) A (call (.type "zip") [.ref l1, .ref l2, .ref l3]) Q E s := by
  refine callType_new F.called_zip (by decide) (typeCall_zip_3 _ _ _) (newCall_zip_3 _ _ _) (fun obj => args_object_init_4 obj _ _ _) F.entry_zip_new
    (meets_zip3 l1 l2 l3 xs1 xs2 xs3 b1 b2 b3) ⟨h1, h2, h3, ?_⟩
  have z1 : (yH3_1 s.heap l1 l2 l3 b1 b2 b3).objs.size = s.heap.objs.size + 1 := by rw [Heap.size_push]
  have z2 : (yH3_2 s.heap l1 l2 l3 b1 b2 b3).objs.size = s.heap.objs.size + 2 := by rw [Heap.size_push, z1]
  have z3 : (yH3_3 s.heap l1 l2 l3 b1 b2 b3).objs.size = s.heap.objs.size + 3 := by rw [Heap.size_push, z2]
  have zI : (yTI3 s.heap l1 l2 l3 b1 b2 b3).objs.size = s.heap.objs.size + 4 := by rw [Heap.size_push, z3]
  have zO : (yTO3 s.heap l1 l2 l3 b1 b2 b3).objs.size = s.heap.objs.size + 5 := by rw [Heap.size_push, zI]
  have zZ : (yZ3 s.heap l1 l2 l3 b1 b2 b3).objs.size = s.heap.objs.size + 6 := by rw [Heap.size_push, zO]
  have gZ : (yZ3 s.heap l1 l2 l3 b1 b2 b3).get? (yTO3 s.heap l1 l2 l3 b1 b2 b3).objs.size = some _ := Heap.get?_push_size _ rfl
  have gO : (yZ3 s.heap l1 l2 l3 b1 b2 b3).get? (yTI3 s.heap l1 l2 l3 b1 b2 b3).objs.size = some _ := Heap.get?_push_of_some _ (Heap.get?_push_size _ rfl)
  have gI : (yZ3 s.heap l1 l2 l3 b1 b2 b3).get? (yH3_3 s.heap l1 l2 l3 b1 b2 b3).objs.size = some _ := Heap.get?_push_of_some _ (Heap.get?_push_of_some _ (Heap.get?_push_size _ rfl))
  have keep : ∀ c o, s.heap.get? c = some o → (yZ3 s.heap l1 l2 l3 b1 b2 b3).get? c = some o := fun c o x => Heap.get?_push_of_some _ (Heap.get?_push_of_some _ (Heap.get?_push_of_some _ (Heap.get?_push_of_some _ (Heap.get?_push_of_some _ (Heap.get?_push_of_some _ (x))))))
  have s1 : SubAt ⟨(yH3_0 s.heap l1 l2 l3 b1 b2 b3).objs.size, l1, xs1, b1⟩ 0 (yZ3 s.heap l1 l2 l3 b1 b2 b3) := by
    rcases h1 with ⟨e, ⟨p, c, d⟩⟩ | ⟨e, ⟨p, c, d⟩⟩
    · subst e
      exact .inl ⟨rfl, ⟨_, Heap.get?_push_of_some _ (Heap.get?_push_of_some _ (Heap.get?_push_of_some _ (Heap.get?_push_of_some _ (Heap.get?_push_of_some _ (Heap.get?_push_size _ rfl))))), rfl, rfl⟩, p, keep _ _ c, d⟩
    · subst e
      exact .inr ⟨rfl, ⟨_, Heap.get?_push_of_some _ (Heap.get?_push_of_some _ (Heap.get?_push_of_some _ (Heap.get?_push_of_some _ (Heap.get?_push_of_some _ (Heap.get?_push_size _ rfl))))), rfl, rfl⟩, p, keep _ _ c, d⟩
  have s2 : SubAt ⟨(yH3_1 s.heap l1 l2 l3 b1 b2 b3).objs.size, l2, xs2, b2⟩ 0 (yZ3 s.heap l1 l2 l3 b1 b2 b3) := by
    rcases h2 with ⟨e, ⟨p, c, d⟩⟩ | ⟨e, ⟨p, c, d⟩⟩
    · subst e
      exact .inl ⟨rfl, ⟨_, Heap.get?_push_of_some _ (Heap.get?_push_of_some _ (Heap.get?_push_of_some _ (Heap.get?_push_of_some _ (Heap.get?_push_size _ rfl)))), rfl, rfl⟩, p, keep _ _ c, d⟩
    · subst e
      exact .inr ⟨rfl, ⟨_, Heap.get?_push_of_some _ (Heap.get?_push_of_some _ (Heap.get?_push_of_some _ (Heap.get?_push_of_some _ (Heap.get?_push_size _ rfl)))), rfl, rfl⟩, p, keep _ _ c, d⟩
  have s3 : SubAt ⟨(yH3_2 s.heap l1 l2 l3 b1 b2 b3).objs.size, l3, xs3, b3⟩ 0 (yZ3 s.heap l1 l2 l3 b1 b2 b3) := by
    rcases h3 with ⟨e, ⟨p, c, d⟩⟩ | ⟨e, ⟨p, c, d⟩⟩
    · subst e
      exact .inl ⟨rfl, ⟨_, Heap.get?_push_of_some _ (Heap.get?_push_of_some _ (Heap.get?_push_of_some _ (Heap.get?_push_size _ rfl))), rfl, rfl⟩, p, keep _ _ c, d⟩
    · subst e
      exact .inr ⟨rfl, ⟨_, Heap.get?_push_of_some _ (Heap.get?_push_of_some _ (Heap.get?_push_of_some _ (Heap.get?_push_size _ rfl))), rfl, rfl⟩, p, keep _ _ c, d⟩
  show _ ∧ _
  have q1 : @LT.lt Nat _ l1 s.heap.objs.size := h1.lt
  have q2 : @LT.lt Nat _ l2 s.heap.objs.size := h2.lt
  have q3 : @LT.lt Nat _ l3 s.heap.objs.size := h3.lt
  simp only [z1, z2, z3, zI, zO] at gZ
  simp only [z1, z2, z3, zI, zO] at gO
  simp only [z1, z2, z3, zI, zO] at gI
  rw [z1] at s2
  rw [z2] at s3
  rw [zO]
  refine ⟨⟨_, gZ, rfl⟩, h _ ⟨?_, ?_, ?_, ?_, ?_, ?_, ?_, ?_, ?_, ?_, ?_, ?_, ?_, ?_, ?_, ?_, ?_, ?_, ?_, ?_, ?_, ?_, ?_, ?_, ?_, ?_, ?_, ?_, ?_, ?_⟩ ⟨gZ, gI, ⟨_, _, _, gO⟩, s1, s2, s3⟩ zZ keep⟩
  all_goals (refine neN ?_; (try dsimp only); omega)
end
section
open PySem PySem.W PyProof.Rows PySem.Spec PySem.Calls
open PyProof.Rows.LCg (lst lst_snoc)
set_option linter.unusedVariables false
section
variable {prog : Program} {w : World} {A : Around} {E : Value → Shared → Prop} {s : Shared} {h₀ : Heap} {L : Addr} {m : Str → Option Value} {env : Env}

/-- what a turn of a comprehension gives: nothing that stood is changed, the value has what Obs says, and is new if it is an object -/
def EltEnd (h₀ : Heap) (L C : Addr) (m : Str → Option Value) (s₁ : Shared) (Obs : Value → Heap → Prop) (y : Value) (s₂ : Shared) : Prop :=
  ∃ h' tk mC, s₂ = { s₁ with heap := h', toks := tk } ∧ Fr h₀ L h' m ∧ h'.Ns C mC ∧ (∀ b o, b ≠ C → b ≠ L → s₁.heap.get? b = some o → h'.get? b = some o) ∧ Obs y h' ∧ (∀ a, y = .ref a → s₁.heap.get? a = none)

theorem comp_blk {elt target iter : PySem.Expr} {scope : Scope} {cl : List (Str × Addr)} {pos : Pos} {s₂ : Shared} {z : Addr} {fp wr : List Addr} {n : Nat} {P Md : Nat → Value → Heap → Prop} {St : Nat → Heap → Prop}
    {RR : Value → Addr → Result → Shared → Prop} (Obs : Nat → Value → Heap → Prop) (hObs : ∀ i y h h', Obs i y h → (∀ a, y = .ref a → ∀ o, h.get? a = some o → h'.get? a = some o) → Obs i y h')
    (W : KTurns prog w A target z fp wr n P Md St)
    (hlive : ∀ i h, St i h → ∀ b ∈ fp, ∃ o, h.get? b = some o)
    (hself : ∀ (s : Shared) (Q : Value → Shared → Prop) (E : Value → Shared → Prop), St 0 s.heap → Q (.ref z) s → wpAny (model prog w) A (pyIter (.ref z)) Q E s) (hsz : n ≤ sizeLine)
    (hcell : ∀ y ∈ scope.names, y.2 ≠ .cell) (hkind : scope.kind = .function) (hst : St 0 s₂.heap) (hfp : ∀ b ∈ fp, b < s₂.heap.objs.size)
    (F : Fr h₀ L s₂.heap m) (hLf : L ∉ fp) (hwr : ∀ b ∈ wr, h₀.get? b = none)
    (turn : ∀ i v C h tk mC (E' : Value → Shared → Prop), i < n → P i v h → h.Ns C mC → C ≠ L → s₂.heap.objs.size ≤ C → h₀.get? C = none → C < h.objs.size → s₂.heap.objs.size ≤ h.objs.size →
      (∀ b o, b ∉ wr → b ≠ L → s₂.heap.get? b = some o → h.get? b = some o) → Fr h₀ L h m →
      wpAny (model prog w) A (assign target (compEnvC scope cl C env) v) (fun _ s₃ => wpAny (model prog w) A (eval elt (compEnvC scope cl C env)) (EltEnd h₀ L C m { s₂ with heap := h, toks := tk } (Obs i)) E' s₃) E' { s₂ with heap := h, toks := tk })
    (hRR : ∀ D C h tk mC ys, ys.length = n → Fr h₀ L h m → h.get? D = some (lst ys) → h.Ns C mC → h₀.get? C = none → h₀.get? D = none → C ≠ L → D ≠ L → C ≠ D → s₂.heap.objs.size ≤ D → s₂.heap.objs.size ≤ C → (∀ b o, b ∉ wr → b ≠ L → s₂.heap.get? b = some o → h.get? b = some o) →
      (∀ i y, ys[i]? = some y → Obs i y h ∧ ∀ a, y = .ref a → a ≠ D ∧ a ≠ C ∧ a ≠ L ∧ h₀.get? a = none ∧ s₂.heap.get? a = none) → RR (.ref D) C (.ok .next) { s₂ with heap := h, toks := tk }) :
    wpAny (model prog w) A (newList []) (fun acc s₃ => wpAny (model prog w) A (newFunctionEnv scope env.globals cl [] env.qual none .none (some env)) (fun cenv s₄ =>
      codeAny (model prog w) A (.compStart (.ListComp elt [⟨target, iter, [], 0⟩] scope pos) 0 (.ref z) acc { cenv with scope := relabel scope env }) (RR acc cenv.locals) s₄) E s₃) E s₂ := by
  refine wpAny_newObj_type (wpAny_newFunctionEnv hcell (by intro y hy; simp at hy) (fun h₁ hns₁ hsb₁ => ?_) hkind)
  dsimp only at hns₁ hsb₁ ⊢
  generalize hH2 : s₂.heap.push { cls := .type "list", dict := none, data := .seq ([] : List Value).toArray } = H2 at hns₁ hsb₁ ⊢
  have hC : H2.objs.size = s₂.heap.objs.size + 1 := by rw [← hH2, Heap.size_push]
  have hDC : s₂.heap.objs.size ≠ H2.objs.size := by rw [hC]; exact Nat.ne_of_lt (Nat.lt_succ_self _)
  have below : ∀ b, b < s₂.heap.objs.size → b ≠ H2.objs.size ∧ b ≠ s₂.heap.objs.size := fun b hb => ⟨by rw [hC]; exact Nat.ne_of_lt (Nat.lt_succ_of_lt hb), Nat.ne_of_lt hb⟩
  have hDf : s₂.heap.objs.size ∉ fp := fun hm => Nat.lt_irrefl _ (hfp _ hm)
  have hCf : H2.objs.size ∉ fp := fun hm => by have := hfp _ hm; rw [hC] at this; exact Nat.lt_irrefl _ (Nat.lt_of_succ_lt this)
  have old : ∀ b o, s₂.heap.get? b = some o → h₁.get? b = some o := fun b o e => hsb₁.extBut b o (below b (Heap.lt_size e)).1 (Heap.get?_push_of_some _ (hH2 ▸ Heap.get?_push_of_some _ e))
  have hacc : h₁.get? s₂.heap.objs.size = some (lst []) := hsb₁.extBut _ _ hDC (Heap.get?_push_of_some _ (hH2 ▸ Heap.get?_push_size _ rfl))
  have hst₁ : St 0 h₁ := W.frame _ _ _ hst fun b _ o e => old b o e
  have fresh : ∀ a, s₂.heap.objs.size ≤ a → s₂.heap.get? a = none := fun a ha => by
    cases e : s₂.heap.get? a with
    | none => rfl
    | some o' => exact absurd (Heap.lt_size e) (Nat.not_lt.mpr ha)
  have fresh₀ : ∀ a, s₂.heap.get? a = none → h₀.get? a = none := fun a ha => by
    cases e : h₀.get? a with
    | none => rfl
    | some o' => have := F.keep a o' e; rw [ha] at this; cases this
  have hD₀ : h₀.get? s₂.heap.objs.size = none := fresh₀ _ (fresh _ (Nat.le_refl _))
  have hC₀ : h₀.get? H2.objs.size = none := fresh₀ _ (fresh _ (by rw [hC]; exact Nat.le_succ _))
  have hLlt : L < s₂.heap.objs.size := F.ns.lt
  have hDL : s₂.heap.objs.size ≠ L := Ne.symm (below L hLlt).2
  have hCL : H2.objs.size ≠ L := Ne.symm (below L hLlt).1
  have hfC : ∀ b ∈ fp, b ≠ H2.objs.size := fun b hb => (below b (hfp b hb)).1
  have hfD : ∀ b ∈ fp, b ≠ s₂.heap.objs.size := fun b hb => (below b (hfp b hb)).2
  have hLw : L ∉ wr := fun h => hLf (W.sub _ h)
  have old₀ : ∀ b o, h₀.get? b = some o → b ∉ wr := fun b o e hb => by rw [hwr b hb] at e; cases e
  have frw : ∀ h h', Fr h₀ L h m → (∀ b o, b ∉ wr → h.get? b = some o → h'.get? b = some o) → Fr h₀ L h' m := fun h h' F' hk =>
    ⟨F'.ns.at' fun o e => hk _ o hLw e, fun b o e => hk b o (old₀ b o e) (F'.keep b o e), F'.above⟩
  have loop : ∀ s₃ : Shared, s₃ = { s₂ with heap := h₁, toks := s₂.toks + ([] : List (Str × Value)).length } →
      codeAny (model prog w) A (.compLoop (.ListComp elt [⟨target, iter, [], 0⟩] scope pos) 0 (.ref z) (.ref s₂.heap.objs.size) (compEnvC scope cl H2.objs.size env))
        (RR (.ref s₂.heap.objs.size) H2.objs.size) s₃ := by
    rintro s₃ rfl
    refine kcp_loop
      (fun k s' => ∃ h' tk i ys m', s' = { s₂ with heap := h', toks := tk } ∧ i ≤ n ∧ k = n + 1 - i ∧ ys.length = i ∧ St i h' ∧ Fr h₀ L h' m ∧ h'.Ns H2.objs.size m' ∧ h'.get? s₂.heap.objs.size = some (lst ys) ∧
        (∀ b o, b ∉ wr → b ≠ L → s₂.heap.get? b = some o → h'.get? b = some o) ∧
        (∀ i y, ys[i]? = some y → Obs i y h' ∧ ∀ a, y = .ref a → a ≠ s₂.heap.objs.size ∧ a ≠ H2.objs.size ∧ a ≠ L ∧ a ∉ fp ∧ s₂.heap.get? a = none)) ?_ (n + 1)
      ⟨h₁, _, 0, [], _, rfl, Nat.zero_le _, rfl, rfl, hst₁, F.keeps old, hns₁, hacc, fun b o _ _ e => old b o e, fun i y e => by simp at e⟩
    rintro k s' ⟨h', tk, i, ys, m', rfl, hi, rfl, hyl, hst', F', hn', hD', hk', hO'⟩
    have hCw : H2.objs.size ∉ wr := fun q => hCf (W.sub _ q)
    have hDw : s₂.heap.objs.size ∉ wr := fun q => hDf (W.sub _ q)
    by_cases hlt : i < n
    · refine W.item i _ _ _ hlt hst' fun v h₂ tk₂ hMd hk₂ => ?_
      refine W.go i v _ _ _ hMd fun h₃ hP hst₃ hk₃ => ?_
      have hk₃' : ∀ b o, b ∉ wr → h'.get? b = some o → h₃.get? b = some o := fun b o hb e => hk₃ b o hb (hk₂ b o hb e)
      have hn₃ : h₃.Ns H2.objs.size m' := hn'.at' fun o e => hk₃' _ o hCw e
      have hD₃ := hk₃' _ _ hDw hD'
      refine wpAny_mono (turn i v H2.objs.size h₃ tk₂ m' _ hlt hP hn₃ hCL (by rw [hC]; exact Nat.le_succ _) hC₀ hn₃.lt (Nat.le_of_lt (Heap.lt_size hD₃)) (fun b o hb hb' e => hk₃' b o hb (hk' b o hb hb' e)) (frw _ _ F' hk₃')) (fun _ s₄ h₄ => wpAny_mono h₄ (fun y s₅ h₅ => ?_) fun _ _ e => e) fun _ _ e => e
      obtain ⟨h₅, tk₅, mC, rfl, F₅, hn₅, hk₅, hO₅, hf₅⟩ := h₅
      dsimp only at hk₅ hf₅
      have hD₅ := hk₅ _ _ hDC hDL hD₃
      have hst₅ : St (i + 1) h₅ := W.frame _ _ _ hst₃ fun b hb o e => hk₅ b o (hfC b hb) (fun q => hLf (q ▸ hb)) e
      refine append_at (hsz := by show ys.toArray.size ≤ sizeLine; rw [List.size_toArray, hyl]; exact Nat.le_trans hi hsz) hD₅ fun h₆ hs₆ hD₆ => ?_
      refine ⟨n + 1 - (i + 1), by omega, h₆, tk₅, i + 1, ys ++ [y], mC, rfl, hlt, rfl, by rw [List.length_append, List.length_singleton, hyl], W.frame _ _ _ hst₅ fun b hb o e => hs₆.extBut b o (hfD b hb) e, F₅.change hs₆ hDL hD₀,
        hn₅.sameBut hs₆ (Ne.symm hDC), hD₆.trans (congrArg some (lst_snoc ys y)), fun b o hb hbL e => ?_, ?_⟩
      · have hb' := below b (Heap.lt_size e)
        exact hs₆.extBut b o hb'.2 (hk₅ b o hb'.1 hbL (hk₃' b o hb (hk' b o hb hbL e)))
      · intro j y' hj
        by_cases hjl : j < ys.length
        · rw [List.getElem?_append_left hjl] at hj
          obtain ⟨ob, fr⟩ := hO' j y' hj
          refine ⟨hObs _ _ _ _ ob fun a ha o e => ?_, fr⟩
          obtain ⟨a1, a2, a3, a4, a5⟩ := fr a ha
          exact hs₆.extBut a o a1 (hk₅ a o a2 a3 (hk₃' a o (fun q => a4 (W.sub _ q)) e))
        · rw [List.getElem?_append_right (Nat.not_lt.mp hjl)] at hj
          have hj' : j = i ∧ y' = y := by
            have : j - ys.length = 0 := by
              cases q : j - ys.length with
              | zero => rfl
              | succ q' => rw [q] at hj; simp at hj
            rw [this] at hj
            exact ⟨by omega, by simpa using hj.symm⟩
          obtain ⟨rfl, rfl⟩ := hj'
          have nf : ∀ a, y' = .ref a → a ≠ s₂.heap.objs.size ∧ a ≠ H2.objs.size ∧ a ≠ L ∧ a ∉ fp ∧ s₂.heap.get? a = none := by
            intro a ha
            have q := hf₅ a ha
            have live : ∀ b o, h₃.get? b = some o → a ≠ b := fun b o e x => by rw [x, e] at q; cases q
            obtain ⟨oC, _, _, eC, _⟩ := hn₃
            obtain ⟨oL, _, _, eL, _⟩ := (frw _ _ F' hk₃').ns
            have nfp : a ∉ fp := fun hm => by
              obtain ⟨o, e⟩ := hlive _ _ hst₃ a hm
              exact live _ _ e rfl
            refine ⟨live _ _ hD₃, live _ _ eC, live _ _ eL, nfp, ?_⟩
            cases e : s₂.heap.get? a with
            | none => rfl
            | some o =>
              have := hk₃' a o (fun hm => nfp (W.sub _ hm)) (hk' a o (fun hm => nfp (W.sub _ hm)) (live _ _ eL) e)
              rw [q] at this; cases this
          refine ⟨hObs _ _ _ _ hO₅ fun a ha o e => hs₆.extBut a o (nf a ha).1 e, nf⟩
    · obtain rfl : i = n := Nat.le_antisymm hi (Nat.not_lt.mp hlt)
      refine W.done _ _ _ hst' fun h₂ tk₂ hk₂ => ?_
      refine hRR _ _ h₂ tk₂ m' ys hyl (frw _ _ F' hk₂) (hk₂ _ _ hDw hD') (hn'.at' fun o e => hk₂ _ o hCw e) hC₀ hD₀ hCL hDL (Ne.symm hDC) (Nat.le_refl _) (by rw [hC]; exact Nat.le_succ _) (fun b o hb hbL e => hk₂ b o hb (hk' b o hb hbL e)) fun j y hj => ?_
      obtain ⟨ob, fr⟩ := hO' j y hj
      refine ⟨hObs _ _ _ _ ob fun a ha o e => hk₂ a o (fun q => (fr a ha).2.2.2.1 (W.sub _ q)) e, fun a ha => ?_⟩
      obtain ⟨a1, a2, a3, a4, a5⟩ := fr a ha
      exact ⟨a1, a2, a3, fresh₀ _ a5, a5⟩
  exact codeAny_compStart_list (loop _ rfl) (hself _ _ _ hst₁ (loop _ rfl))
end
end
section
open PySem PySem.W PyProof.Rows PySem.Spec PySem.Calls
set_option linter.unusedVariables false
open PyProof.Rows.LCg (lst lst_snoc)
theorem SubAt.liveSrc {u : Sub} {k : Nat} {h : Heap} (x : SubAt u k h) : ∃ o, h.get? u.src = some o := by
  rcases x with ⟨e, _, ⟨o, a, b⟩⟩ | ⟨e, _, ⟨o, a, b⟩⟩ <;> exact ⟨o, a⟩

theorem turns_zip2 {prog : Program} {w : World} {A : Around} (hh : A.handled = none) {z TI TO : Addr} {u1 u2 : Sub} (D : ZAp2 z TI TO u1 u2) {n : Nat} (e1 : u1.xs.size = n) (e2 : u2.xs.size = n) (elts : List PySem.Expr) (k : Nat) (pos : Pos) :
    KTurns prog w A (.Tuple elts k pos) z [z, TI, TO, u1.it, u2.it, u1.src, u2.src] [z, TO, u1.it, u2.it] n
      (fun i v h => ∃ T x1 x2, v = .ref T ∧ u1.xs[i]? = some x1 ∧ u2.xs[i]? = some x2 ∧ IsTup2 h T x1 x2)
      (fun i v h => ∃ T x1 x2, v = .ref T ∧ u1.xs[i]? = some x1 ∧ u2.xs[i]? = some x2 ∧ IsTup2 h T x1 x2 ∧ ZSt2 z TI TO u1 u2 (i + 1) (rawInt T) h ∧ T ≠ z)
      (fun i h => ZSt2 z TI TO u1 u2 i .none h) where
  sub := fun c hc => by simp at hc ⊢; rcases hc with rfl | rfl | rfl | rfl <;> simp
  frame := fun i h h' S hk => by
    obtain ⟨hz, hTI, ⟨a1, a2, hTO⟩, s1, s2⟩ := S
    exact ⟨hk z (by simp) _ hz, hk TI (by simp) _ hTI, ⟨a1, a2, hk TO (by simp) _ hTO⟩, s1.keep (hk _ (by simp)) (hk _ (by simp)), s2.keep (hk _ (by simp)) (hk _ (by simp))⟩
  item := fun i s Q E hi S hQ => by
    have zlt : z ≠ s.heap.objs.size := Nat.ne_of_lt (Heap.lt_size S.hz)
    refine next2_item D S (Array.getElem?_eq_getElem (by rw [e1]; exact hi)) (Array.getElem?_eq_getElem (by rw [e2]; exact hi)) fun h' S' hT _ hk => ?_
    exact hQ _ h' s.toks ⟨_, _, _, rfl, Array.getElem?_eq_getElem (by rw [e1]; exact hi), Array.getElem?_eq_getElem (by rw [e2]; exact hi), hT, S', Ne.symm zlt⟩ fun c o hc e => hk c o (fun x => hc (by simp [x])) (fun x => hc (by simp [x])) (fun x => hc (by simp [x])) (fun x => hc (by simp [x])) e
  go := fun i v s Q E hm hQ => by
    obtain ⟨T, x1, x2, rfl, g1, g2, hT, S, hTz⟩ := hm
    obtain ⟨hz, hTI, ⟨a1, a2, hTO⟩, s1, s2⟩ := S
    exact wpAny_letOwnedTupleGo_zip hz fun h' hz' hs' => hQ h' ⟨T, x1, x2, rfl, g1, g2, hs'.extBut _ _ hTz hT⟩
      ⟨hz', hs'.extBut _ _ D.TIz hTI, ⟨a1, a2, hs'.extBut _ _ D.TOz hTO⟩, s1.keep (fun o e => hs'.extBut _ o D.u1z e) (fun o e => hs'.extBut _ o D.u1sz e), s2.keep (fun o e => hs'.extBut _ o D.u2z e) (fun o e => hs'.extBut _ o D.u2sz e)⟩ fun c o hc e => hs'.extBut _ _ (fun x => hc (by simp [x])) e
  done := fun s Q E S hQ => next2_end hh D S (Array.getElem?_eq_none (by rw [e1]; exact Nat.le_refl _)) fun h' hk => hQ h' s.toks fun c o hc e => hk c o (fun x => hc (by simp [x])) (fun x => hc (by simp [x])) (fun x => hc (by simp [x])) (fun x => hc (by simp [x])) e
theorem live_zip2 {z TI TO : Addr} {u1 u2 : Sub} {i : Nat} {f : Value} {h : Heap} (S : ZSt2 z TI TO u1 u2 i f h) : ∀ b ∈ [z, TI, TO, u1.it, u2.it, u1.src, u2.src], ∃ o, h.get? b = some o := by
  obtain ⟨hz, hTI, ⟨a1, a2, hTO⟩, s1, s2⟩ := S
  intro b hb
  simp only [List.mem_cons, List.not_mem_nil, or_false] at hb
  rcases hb with rfl | rfl | rfl | rfl | rfl | rfl | rfl
  · exact ⟨_, hz⟩
  · exact ⟨_, hTI⟩
  · exact ⟨_, hTO⟩
  · exact s1.live
  · exact s2.live
  · exact s1.liveSrc
  · exact s2.liveSrc

theorem turns_zip3 {prog : Program} {w : World} {A : Around} (hh : A.handled = none) {z TI TO : Addr} {u1 u2 u3 : Sub} (D : ZAp3 z TI TO u1 u2 u3) {n : Nat} (e1 : u1.xs.size = n) (e2 : u2.xs.size = n) (e3 : u3.xs.size = n) (elts : List PySem.Expr) (k : Nat) (pos : Pos) :
    KTurns prog w A (.Tuple elts k pos) z [z, TI, TO, u1.it, u2.it, u3.it, u1.src, u2.src, u3.src] [z, TO, u1.it, u2.it, u3.it] n
      (fun i v h => ∃ T x1 x2 x3, v = .ref T ∧ u1.xs[i]? = some x1 ∧ u2.xs[i]? = some x2 ∧ u3.xs[i]? = some x3 ∧ IsTup3 h T x1 x2 x3)
      (fun i v h => ∃ T x1 x2 x3, v = .ref T ∧ u1.xs[i]? = some x1 ∧ u2.xs[i]? = some x2 ∧ u3.xs[i]? = some x3 ∧ IsTup3 h T x1 x2 x3 ∧ ZSt3 z TI TO u1 u2 u3 (i + 1) (rawInt T) h ∧ T ≠ z)
      (fun i h => ZSt3 z TI TO u1 u2 u3 i .none h) where
  sub := fun c hc => by simp at hc ⊢; rcases hc with rfl | rfl | rfl | rfl | rfl <;> simp
  frame := fun i h h' S hk => by
    obtain ⟨hz, hTI, ⟨a1, a2, a3, hTO⟩, s1, s2, s3⟩ := S
    exact ⟨hk z (by simp) _ hz, hk TI (by simp) _ hTI, ⟨a1, a2, a3, hk TO (by simp) _ hTO⟩, s1.keep (hk _ (by simp)) (hk _ (by simp)), s2.keep (hk _ (by simp)) (hk _ (by simp)), s3.keep (hk _ (by simp)) (hk _ (by simp))⟩
  item := fun i s Q E hi S hQ => by
    have zlt : z ≠ s.heap.objs.size := Nat.ne_of_lt (Heap.lt_size S.hz)
    refine next3_item D S (Array.getElem?_eq_getElem (by rw [e1]; exact hi)) (Array.getElem?_eq_getElem (by rw [e2]; exact hi)) (Array.getElem?_eq_getElem (by rw [e3]; exact hi)) fun h' S' hT _ hk => ?_
    exact hQ _ h' s.toks ⟨_, _, _, _, rfl, Array.getElem?_eq_getElem (by rw [e1]; exact hi), Array.getElem?_eq_getElem (by rw [e2]; exact hi), Array.getElem?_eq_getElem (by rw [e3]; exact hi), hT, S', Ne.symm zlt⟩ fun c o hc e => hk c o (fun x => hc (by simp [x])) (fun x => hc (by simp [x])) (fun x => hc (by simp [x])) (fun x => hc (by simp [x])) (fun x => hc (by simp [x])) e
  go := fun i v s Q E hm hQ => by
    obtain ⟨T, x1, x2, x3, rfl, g1, g2, g3, hT, S, hTz⟩ := hm
    obtain ⟨hz, hTI, ⟨a1, a2, a3, hTO⟩, s1, s2, s3⟩ := S
    exact wpAny_letOwnedTupleGo_zip hz fun h' hz' hs' => hQ h' ⟨T, x1, x2, x3, rfl, g1, g2, g3, hs'.extBut _ _ hTz hT⟩
      ⟨hz', hs'.extBut _ _ D.TIz hTI, ⟨a1, a2, a3, hs'.extBut _ _ D.TOz hTO⟩, s1.keep (fun o e => hs'.extBut _ o D.u1z e) (fun o e => hs'.extBut _ o D.u1sz e), s2.keep (fun o e => hs'.extBut _ o D.u2z e) (fun o e => hs'.extBut _ o D.u2sz e), s3.keep (fun o e => hs'.extBut _ o D.u3z e) (fun o e => hs'.extBut _ o D.u3sz e)⟩ fun c o hc e => hs'.extBut _ _ (fun x => hc (by simp [x])) e
  done := fun s Q E S hQ => next3_end hh D S (Array.getElem?_eq_none (by rw [e1]; exact Nat.le_refl _)) fun h' hk => hQ h' s.toks fun c o hc e => hk c o (fun x => hc (by simp [x])) (fun x => hc (by simp [x])) (fun x => hc (by simp [x])) (fun x => hc (by simp [x])) (fun x => hc (by simp [x])) e
theorem live_zip3 {z TI TO : Addr} {u1 u2 u3 : Sub} {i : Nat} {f : Value} {h : Heap} (S : ZSt3 z TI TO u1 u2 u3 i f h) : ∀ b ∈ [z, TI, TO, u1.it, u2.it, u3.it, u1.src, u2.src, u3.src], ∃ o, h.get? b = some o := by
  obtain ⟨hz, hTI, ⟨a1, a2, a3, hTO⟩, s1, s2, s3⟩ := S
  intro b hb
  simp only [List.mem_cons, List.not_mem_nil, or_false] at hb
  rcases hb with rfl | rfl | rfl | rfl | rfl | rfl | rfl | rfl | rfl
  · exact ⟨_, hz⟩
  · exact ⟨_, hTI⟩
  · exact ⟨_, hTO⟩
  · exact s1.live
  · exact s2.live
  · exact s3.live
  · exact s1.liveSrc
  · exact s2.liveSrc
  · exact s3.liveSrc

section
variable {prog : Program} {w : World} {A : Around} {E : Value → Shared → Prop} {s : Shared} {h₀ : Heap} {L : Addr} {m : Str → Option Value} {env : Env}
def CFin (h₀ : Heap) (L : Addr) (mm : Addr → Str → Option Value) (s₂ : Shared) (n : Nat) (wr : List Addr) (Obs : Nat → Value → Heap → Prop) (K : Addr → Shared → Prop) : Prop :=
  ∀ D h tk ys, ys.length = n → Fr h₀ L h (mm D) → h.get? D = some (lst ys) → h₀.get? D = none → D ≠ L → s₂.heap.objs.size ≤ D → (∀ b o, b ∉ wr → b ≠ L → s₂.heap.get? b = some o → h.get? b = some o) →
    (∀ i y, ys[i]? = some y → Obs i y h ∧ ∀ a, y = .ref a → a ≠ D ∧ a ≠ L ∧ h₀.get? a = none ∧ s₂.heap.get? a = none) → K D { s₂ with heap := h, toks := tk }
def CTurn (prog : Program) (w : World) (A : Around) (h₀ : Heap) (L : Addr) (m : Str → Option Value) (env : Env) (elt target : PySem.Expr) (scope : Scope) (cl : List (Str × Addr)) (s₂ : Shared) (n : Nat) (wr : List Addr) (P : Nat → Value → Heap → Prop) (Obs : Nat → Value → Heap → Prop) : Prop :=
  ∀ i v C h tk mC (E' : Value → Shared → Prop), i < n → P i v h → h.Ns C mC → C ≠ L → s₂.heap.objs.size ≤ C → h₀.get? C = none → C < h.objs.size → s₂.heap.objs.size ≤ h.objs.size →
      (∀ b o, b ∉ wr → b ≠ L → s₂.heap.get? b = some o → h.get? b = some o) → Fr h₀ L h m →
      wpAny (model prog w) A (assign target (compEnvC scope cl C env) v) (fun _ s₃ => wpAny (model prog w) A (eval elt (compEnvC scope cl C env)) (EltEnd h₀ L C m { s₂ with heap := h, toks := tk } (Obs i)) E' s₃) E' { s₂ with heap := h, toks := tk }
def ObsOk (Obs : Nat → Value → Heap → Prop) : Prop := ∀ i y h h', Obs i y h → (∀ a, y = .ref a → ∀ o, h.get? a = some o → h'.get? a = some o) → Obs i y h'
structure CIter (prog : Program) (w : World) (A : Around) (h₀ : Heap) (L : Addr) (target : PySem.Expr) (z : Addr) (fp wr : List Addr) (n : Nat) (P Md : Nat → Value → Heap → Prop) (St : Nat → Heap → Prop) (h : Heap) : Prop where
  W : KTurns prog w A target z fp wr n P Md St
  live : ∀ i h, St i h → ∀ b ∈ fp, ∃ o, h.get? b = some o
  self : ∀ (s : Shared) (Q : Value → Shared → Prop) (E : Value → Shared → Prop), St 0 s.heap → Q (.ref z) s → wpAny (model prog w) A (pyIter (.ref z)) Q E s
  small : n ≤ sizeLine
  st : St 0 h
  lt : ∀ b ∈ fp, b < h.objs.size
  off : L ∉ fp
  new : ∀ b ∈ wr, h₀.get? b = none
/-- what is to be shown of the iterator that a comprehension goes over -/
def CReady (prog : Program) (w : World) (A : Around) (h₀ : Heap) (L : Addr) (m : Str → Option Value) (mm : Addr → Str → Option Value) (env : Env) (elt target : PySem.Expr) (scope : Scope) (cl : List (Str × Addr)) (K : Addr → Shared → Prop) (it : Value) (s₂ : Shared) : Prop :=
  ∃ (z : Addr) (fp wr : List Addr) (n : Nat) (P Md : Nat → Value → Heap → Prop) (St : Nat → Heap → Prop) (Obs : Nat → Value → Heap → Prop), it = .ref z ∧ CIter prog w A h₀ L target z fp wr n P Md St s₂.heap ∧ ObsOk Obs ∧ Fr h₀ L s₂.heap m ∧
    CTurn prog w A h₀ L m env elt target scope cl s₂ n wr P Obs ∧ CFin h₀ L mm s₂ n wr Obs K

theorem eval_comp {elt target iter : PySem.Expr} {scope : Scope} {cl : List (Str × Addr)} {pos : Pos} {Q : Value → Shared → Prop}
    (_F : Fr h₀ L s.heap m) (hclos : closureFor scope env = pure cl) (hcell : ∀ z ∈ scope.names, z.2 ≠ .cell) (hkind : scope.kind = .function)
    (hnames : ∀ z ∈ scope.names, z.2 = .local → scope.names.lookup z.1 = some .local)
    (h : wpAny (model prog w) A (eval iter env) (fun xv s₁ => wpAny (model prog w) A (pyIter xv) (CReady prog w A h₀ L m (fun _ => m) env elt target scope cl (fun D s' => Q (.ref D) s')) E s₁) E s)
    (hs : ∀ x, foldedSetIterable iter env x = pure x := by intro _; rfl) :
    wpAny (model prog w) A (eval (.ListComp elt [⟨target, iter, [], 0⟩] scope pos) env) Q E s := by
  rw [eval_ListComp]
  refine wpAny_comprehension_free (use := none) rfl hs hclos hkind hnames (wpAny_mono h (fun xv s₁ h₁ => wpAny_mono h₁ (fun it s₂ h₂ => ?_) fun _ _ e => e) fun _ _ e => e)
  obtain ⟨z, fp, wr, n, P, Md, St, Obs, rfl, I, ob, F, T, fin⟩ := h₂
  refine comp_blk Obs ob I.W I.live I.self I.small hcell hkind I.st I.lt F I.off I.new T ?_
  intro D C h tk mC ys hl F' hD hn hC₀ hD₀ hCL hDL hCD hDs hCs hk hO
  refine ⟨mC, hn, fun h'' hs'' => fin D h'' tk ys hl (F'.change hs'' hCL hC₀) (hs''.extBut _ _ (Ne.symm hCD) hD) hD₀ hDL hDs (fun b o hb hbL e => hs''.extBut b o (fun q => ?_) (hk b o hb hbL e)) fun i y hy => ?_⟩
  · exact absurd (Heap.lt_size e) (Nat.not_lt.mpr (q ▸ hCs))
  · obtain ⟨a, b⟩ := hO i y hy
    refine ⟨ob _ _ _ _ a fun ad e o g => hs''.extBut ad o (b ad e).2.1 g, fun ad e => ?_⟩
    obtain ⟨c1, c2, c3, c4, c5⟩ := b ad e
    exact ⟨c1, c3, c4, c5⟩
theorem assign_comp {elt target iter : PySem.Expr} {y : Str} {py : Pos} {scope : Scope} {cl : List (Str × Addr)} {pos spos : Pos} {Q : Flow → Shared → Prop} (_F : Fr h₀ L s.heap m) (hLe : env.locals = L)
    (hsw : swapsWith (.ListComp elt [⟨target, iter, [], 0⟩] scope pos) (some (.Name y py)) spos.line env = pure true)
    (hclos : closureFor scope env = pure cl) (hcell : ∀ z ∈ scope.names, z.2 ≠ .cell) (hkind : scope.kind = .function)
    (hnames : ∀ z ∈ scope.names, z.2 = .local → scope.names.lookup z.1 = some .local)
    (hy : env.kindOf y = some .local) (hp : (env.scope.kind == .class || (env.scope.kind == .module && env.locals != env.globals)) = false)
    (h : wpAny (model prog w) A (eval iter env) (fun xv s₁ => wpAny (model prog w) A (pyIter xv) (CReady prog w A h₀ L m (fun D z => if z = y then some (.ref D) else m z) env elt target scope cl (fun _ s' => Q .next s')) E s₁) E s)
    (hs : ∀ x, foldedSetIterable iter env x = pure x := by intro _; rfl) :
    wpAny (model prog w) A (exec (.Assign [.Name y py] (.ListComp elt [⟨target, iter, [], 0⟩] scope pos) spos) env) Q E s := by
  subst hLe
  rw [exec_Assign_Name_used _ _ _ _ hsw]
  refine wpAny_bind (wpAny_standAt (wpAny_bind ?_))
  show wpAny _ A (do let _ ← comprehension (.ListComp elt [⟨target, iter, [], 0⟩] scope pos) scope env _ (newList []) false (eval iter env) (some (assign (.Name y py) env))) _ _ s
  refine wpAny_bind (wpAny_mono (wpAny_comprehension_free (use := some (assign (.Name y py) env)) (Q := fun _ s' => Q .next s') rfl hs hclos hkind hnames
    (wpAny_mono h (fun xv s₁ h₁ => wpAny_mono h₁ (fun it s₂ h₂ => ?_) fun _ _ e => e) fun _ _ e => e)) (fun _ s' hq => wpAny_pure (wpAny_pure hq)) fun _ _ e => e)
  obtain ⟨z, fp, wr, n, P, Md, St, Obs, rfl, I, ob, F, T, fin⟩ := h₂
  refine comp_blk Obs ob I.W I.live I.self I.small hcell hkind I.st I.lt F I.off I.new T ?_
  intro D C h tk mC ys hl F' hD hn hC₀ hD₀ hCL hDL hCD hDs hCs hk hO
  show wpAny _ A (assign (.Name y py) env (.ref D)) _ _ _
  refine wpAny_assign_Name (wpAny_storeName_local hy F'.ns (fun h₂ hn₂ hs₂ => ?_) hp)
  have hL₀ : h₀.get? env.locals = none := Heap.get?_none_of_le F'.above
  have F₂ : Fr h₀ env.locals h₂ (fun z => if z = y then some (.ref D) else m z) := ⟨hn₂, fun b o e => hs₂.extBut b o (fun q => by rw [q, hL₀] at e; cases e) (F'.keep b o e), F'.above⟩
  refine ⟨mC, hn.sameBut hs₂ hCL, fun h'' hs'' => fin D h'' _ ys hl (F₂.change hs'' hCL hC₀) (hs''.extBut _ _ (Ne.symm hCD) (hs₂.extBut _ _ hDL hD)) hD₀ hDL hDs (fun b o hb hbL e => hs''.extBut b o (fun q => ?_) (hs₂.extBut _ _ hbL (hk b o hb hbL e))) fun i y' hy' => ?_⟩
  · exact absurd (Heap.lt_size e) (Nat.not_lt.mpr (q ▸ hCs))
  · obtain ⟨a, b⟩ := hO i y' hy'
    refine ⟨ob _ _ _ _ a fun ad e o g => hs''.extBut ad o (b ad e).2.1 (hs₂.extBut ad o (b ad e).2.2.1 g), fun ad e => ?_⟩
    obtain ⟨c1, c2, c3, c4, c5⟩ := b ad e
    exact ⟨c1, c3, c4, c5⟩
end
end
section
open PySem PySem.W PyProof.Rows PySem.Spec PySem.Calls
set_option linter.unusedVariables false
open PyProof.Rows.LCg (lst lst_snoc)

section
variable {prog : Program} {w : World} {A : Around} {E : Value → Shared → Prop} {s : Shared} {h₀ : Heap} {L : Addr} {m : Str → Option Value} {mm : Addr → Str → Option Value} {env : Env} {K : Addr → Shared → Prop}
theorem new_none {h₀ h : Heap} {L a : Addr} {m : Str → Option Value} (F : Fr h₀ L h m) (ha : h.objs.size ≤ a) : h₀.get? a = none := by
  cases e : h₀.get? a with
  | none => rfl
  | some o => exact absurd (Heap.lt_size (F.keep _ _ e)) (Nat.not_lt.mpr ha)
theorem get_none {h : Heap} {a : Addr} (ha : h.objs.size ≤ a) : h.get? a = none := by
  cases e : h.get? a with
  | none => rfl
  | some o => exact absurd (Heap.lt_size e) (Nat.not_lt.mpr ha)
/-- from the state ahead of the iterator to the state behind it -/
structure Up (s s₂ : Shared) (wr : List Addr) : Prop where
  same : ∃ h tk, s₂ = { s with heap := h, toks := tk }
  keep : ∀ b o, s.heap.get? b = some o → s₂.heap.get? b = some o
  sz : s.heap.objs.size ≤ s₂.heap.objs.size
  wr : ∀ b ∈ wr, s.heap.objs.size ≤ b
theorem CTurn.up {elt target : PySem.Expr} {scope : Scope} {cl : List (Str × Addr)} {s₂ : Shared} {n : Nat} {wr : List Addr} {P P' : Nat → Value → Heap → Prop} {Obs : Nat → Value → Heap → Prop}
    (T : CTurn prog w A h₀ L m env elt target scope cl s n [] P Obs) (U : Up s s₂ wr) (hP : ∀ i v h, P' i v h → P i v h) : CTurn prog w A h₀ L m env elt target scope cl s₂ n wr P' Obs := by
  obtain ⟨⟨h', tk', rfl⟩, hk, hz, hw⟩ := U
  intro i v C h tk mC E' hi hp hn hCL hCs hC0 hCl hsz hkeep F
  refine T i v C h tk mC E' hi (hP _ _ _ hp) hn hCL (Nat.le_trans hz hCs) hC0 hCl (Nat.le_trans hz hsz) (fun b o _ hb e => hkeep b o (fun hm => ?_) hb (hk b o e)) F
  exact absurd (Heap.lt_size e) (Nat.not_lt.mpr (hw b hm))
theorem CFin.up {s₂ : Shared} {n : Nat} {wr : List Addr} {Obs : Nat → Value → Heap → Prop}
    (T : CFin h₀ L mm s n [] Obs K) (U : Up s s₂ wr) : CFin h₀ L mm s₂ n wr Obs K := by
  obtain ⟨⟨h', tk', rfl⟩, hk, hz, hw⟩ := U
  intro D h tk ys hl F hD hD0 hDL hDs hkeep hO
  refine T D h tk ys hl F hD hD0 hDL (Nat.le_trans hz hDs) (fun b o _ hb e => hkeep b o (fun hm => ?_) hb (hk b o e)) (fun i y hy => ?_)
  · exact absurd (Heap.lt_size e) (Nat.not_lt.mpr (hw b hm))
  · obtain ⟨a, b⟩ := hO i y hy
    refine ⟨a, fun ad e => ?_⟩
    obtain ⟨c1, c2, c3, c4⟩ := b ad e
    refine ⟨c1, c2, c3, ?_⟩
    cases q : s.heap.get? ad with
    | none => rfl
    | some o => rw [hk _ _ q] at c4; cases c4
theorem ready_src {elt target : PySem.Expr} {scope : Scope} {cl : List (Str × Addr)} {l : Addr} {xs : Array Value} {tup : Bool} (hh : A.handled = none) (F : Fr h₀ L s.heap m) (hs : SrcOk l xs tup s.heap) (hl : l ≠ L) (hsz : xs.size ≤ sizeLine)
    (Obs : Nat → Value → Heap → Prop) (hO : ObsOk Obs) (turn : CTurn prog w A h₀ L m env elt target scope cl s xs.size [] (fun i v _ => xs[i]? = some v) Obs) (fin : CFin h₀ L mm s xs.size [] Obs K) :
    wpAny (model prog w) A (pyIter (.ref l)) (CReady prog w A h₀ L m mm env elt target scope cl K) E s := by
  have hlt := hs.lt
  have hne : l ≠ s.heap.objs.size := Nat.ne_of_lt hlt
  have hLs : L ≠ s.heap.objs.size := Nat.ne_of_lt F.ns.lt
  refine src_iter hs fun h' hz S hk => ?_
  have U : Up s { s with heap := h' } [s.heap.objs.size] := ⟨⟨h', s.toks, rfl⟩, hk, by show _ ≤ h'.objs.size; rw [hz]; exact Nat.le_succ _, fun b hb => by rw [List.mem_singleton.mp hb]; exact Nat.le_refl _⟩
  have lt2 : ∀ b ∈ [s.heap.objs.size, l], b < h'.objs.size := fun b hb => by
    simp only [List.mem_cons, List.not_mem_nil, or_false] at hb
    rcases hb with rfl | rfl
    · rw [hz]; exact Nat.lt_succ_self _
    · rw [hz]; exact Nat.lt_succ_of_lt hlt
  have off : L ∉ [s.heap.objs.size, l] := fun hb => by
    simp only [List.mem_cons, List.not_mem_nil, or_false] at hb
    rcases hb with e | e
    · exact hLs e
    · exact hl e.symm
  have nw : ∀ b ∈ [s.heap.objs.size], h₀.get? b = none := fun b hb => by rw [List.mem_singleton.mp hb]; exact new_none F (Nat.le_refl _)
  rcases S with ⟨e, a, b⟩ | ⟨e, a, b⟩
  · refine ⟨_, _, _, _, _, _, _, Obs, rfl, ⟨KTurns.ofWalks (Walks.tuple hh s.heap.objs.size l hne xs) fun i v s Q E st q => letGo_tupleiter st.1 q, ?_, fun s' Q E st q => (Walks.tuple hh s.heap.objs.size l hne xs).self 0 s' Q E st q, hsz, ⟨a, b⟩, lt2, off, nw⟩, hO, F.keeps hk, turn.up U fun i v h e => e, fin.up U⟩
    rintro i h ⟨⟨o, c, _⟩, ⟨o', c', _⟩⟩ b hb
    simp only [List.mem_cons, List.not_mem_nil, or_false] at hb
    rcases hb with rfl | rfl
    · exact ⟨_, c⟩
    · exact ⟨_, c'⟩
  · refine ⟨_, _, _, _, _, _, _, Obs, rfl, ⟨KTurns.ofWalks (Walks.list hh s.heap.objs.size l hne xs) fun i v s Q E st q => letGo_listiter st.1 q, ?_, fun s' Q E st q => (Walks.list hh s.heap.objs.size l hne xs).self 0 s' Q E st q, hsz, ⟨a, b⟩, lt2, off, nw⟩, hO, F.keeps hk, turn.up U fun i v h e => e, fin.up U⟩
    rintro i h ⟨⟨o, c, _⟩, ⟨o', c', _⟩⟩ b hb
    simp only [List.mem_cons, List.not_mem_nil, or_false] at hb
    rcases hb with rfl | rfl
    · exact ⟨_, c⟩
    · exact ⟨_, c'⟩
theorem ready_zip2 {elt : PySem.Expr} {elts : List PySem.Expr} {kk : Nat} {tp : Pos} {scope : Scope} {cl : List (Str × Addr)} {l1 l2 : Addr} {xs1 xs2 : Array Value} {b1 b2 : Bool} {n : Nat} (hh : A.handled = none) (F : Fr h₀ L s.heap m) (hs1 : SrcOk l1 xs1 b1 s.heap) (hs2 : SrcOk l2 xs2 b2 s.heap) (hl1 : l1 ≠ L) (hl2 : l2 ≠ L) (hn1 : xs1.size = n) (hn2 : xs2.size = n) (hsz : n ≤ sizeLine)
    (Obs : Nat → Value → Heap → Prop) (hO : ObsOk Obs) (turn : CTurn prog w A h₀ L m env elt (.Tuple elts kk tp) scope cl s n [] (fun i v h => ∃ T x1 x2, v = .ref T ∧ xs1[i]? = some x1 ∧ xs2[i]? = some x2 ∧ IsTup2 h T x1 x2) Obs) (fin : CFin h₀ L mm s n [] Obs K) :
    wpAny (model prog w) A (call (.type "zip") [.ref l1, .ref l2]) (fun xv s₁ => wpAny (model prog w) A (pyIter xv) (CReady prog w A h₀ L m mm env elt (.Tuple elts kk tp) scope cl K) E s₁) E s := by
  have q1 : @LT.lt Nat _ l1 s.heap.objs.size := hs1.lt
  have q2 : @LT.lt Nat _ l2 s.heap.objs.size := hs2.lt
  have qL : @LT.lt Nat _ L s.heap.objs.size := F.ns.lt
  refine call_zip2 hs1 hs2 fun h' D S hz hk => ?_
  refine wpAny_pyIter_zip S.hz ?_
  have U : Up s { s with heap := h' } [(s.heap.objs.size + 4), (s.heap.objs.size + 3), s.heap.objs.size, (s.heap.objs.size + 1)] := ⟨⟨h', s.toks, rfl⟩, hk, by show _ ≤ h'.objs.size; rw [hz]; exact Nat.le_add_right _ _, fun b hb => by
    simp only [List.mem_cons, List.not_mem_nil, or_false] at hb
    rcases hb with rfl | rfl | rfl | rfl <;> (show @LE.le Nat _ _ _; omega)⟩
  refine ⟨_, [(s.heap.objs.size + 4), (s.heap.objs.size + 2), (s.heap.objs.size + 3), s.heap.objs.size, (s.heap.objs.size + 1), l1, l2], [(s.heap.objs.size + 4), (s.heap.objs.size + 3), s.heap.objs.size, (s.heap.objs.size + 1)], n, _, _, _, Obs, rfl, ⟨turns_zip2 hh D hn1 hn2 elts kk tp, fun i h S => live_zip2 S, fun s Q E S q => wpAny_pyIter_zip S.hz q, hsz, S, ?_, ?_, ?_⟩, hO, F.keeps hk, turn.up U fun i v h e => e, fin.up U⟩
  · intro b hb
    show @LT.lt Nat _ b h'.objs.size
    rw [hz]
    simp only [List.mem_cons, List.not_mem_nil, or_false] at hb
    rcases hb with rfl | rfl | rfl | rfl | rfl | rfl | rfl <;> omega
  · intro hb
    simp only [List.mem_cons, List.not_mem_nil, or_false] at hb
    rcases hb with e | e | e | e | e | e | e
    all_goals first | exact absurd e.symm (by assumption) | (have e' : @Eq Nat L _ := e; omega)
  · intro b hb
    refine new_none F ?_
    simp only [List.mem_cons, List.not_mem_nil, or_false] at hb
    rcases hb with rfl | rfl | rfl | rfl <;> (show @LE.le Nat _ _ _; omega)
theorem ready_zip3 {elt : PySem.Expr} {elts : List PySem.Expr} {kk : Nat} {tp : Pos} {scope : Scope} {cl : List (Str × Addr)} {l1 l2 l3 : Addr} {xs1 xs2 xs3 : Array Value} {b1 b2 b3 : Bool} {n : Nat} (hh : A.handled = none) (F : Fr h₀ L s.heap m) (hs1 : SrcOk l1 xs1 b1 s.heap) (hs2 : SrcOk l2 xs2 b2 s.heap) (hs3 : SrcOk l3 xs3 b3 s.heap) (hl1 : l1 ≠ L) (hl2 : l2 ≠ L) (hl3 : l3 ≠ L) (hn1 : xs1.size = n) (hn2 : xs2.size = n) (hn3 : xs3.size = n) (hsz : n ≤ sizeLine)
    (Obs : Nat → Value → Heap → Prop) (hO : ObsOk Obs) (turn : CTurn prog w A h₀ L m env elt (.Tuple elts kk tp) scope cl s n [] (fun i v h => ∃ T x1 x2 x3, v = .ref T ∧ xs1[i]? = some x1 ∧ xs2[i]? = some x2 ∧ xs3[i]? = some x3 ∧ IsTup3 h T x1 x2 x3) Obs) (fin : CFin h₀ L mm s n [] Obs K) :
    wpAny (model prog w) A (call (.type "zip") [.ref l1, .ref l2, .ref l3]) (fun xv s₁ => wpAny (model prog w) A (pyIter xv) (CReady prog w A h₀ L m mm env elt (.Tuple elts kk tp) scope cl K) E s₁) E s := by
  have q1 : @LT.lt Nat _ l1 s.heap.objs.size := hs1.lt
  have q2 : @LT.lt Nat _ l2 s.heap.objs.size := hs2.lt
  have q3 : @LT.lt Nat _ l3 s.heap.objs.size := hs3.lt
  have qL : @LT.lt Nat _ L s.heap.objs.size := F.ns.lt
  refine call_zip3 hs1 hs2 hs3 fun h' D S hz hk => ?_
  refine wpAny_pyIter_zip S.hz ?_
  have U : Up s { s with heap := h' } [(s.heap.objs.size + 5), (s.heap.objs.size + 4), s.heap.objs.size, (s.heap.objs.size + 1), (s.heap.objs.size + 2)] := ⟨⟨h', s.toks, rfl⟩, hk, by show _ ≤ h'.objs.size; rw [hz]; exact Nat.le_add_right _ _, fun b hb => by
    simp only [List.mem_cons, List.not_mem_nil, or_false] at hb
    rcases hb with rfl | rfl | rfl | rfl | rfl <;> (show @LE.le Nat _ _ _; omega)⟩
  refine ⟨_, [(s.heap.objs.size + 5), (s.heap.objs.size + 3), (s.heap.objs.size + 4), s.heap.objs.size, (s.heap.objs.size + 1), (s.heap.objs.size + 2), l1, l2, l3], [(s.heap.objs.size + 5), (s.heap.objs.size + 4), s.heap.objs.size, (s.heap.objs.size + 1), (s.heap.objs.size + 2)], n, _, _, _, Obs, rfl, ⟨turns_zip3 hh D hn1 hn2 hn3 elts kk tp, fun i h S => live_zip3 S, fun s Q E S q => wpAny_pyIter_zip S.hz q, hsz, S, ?_, ?_, ?_⟩, hO, F.keeps hk, turn.up U fun i v h e => e, fin.up U⟩
  · intro b hb
    show @LT.lt Nat _ b h'.objs.size
    rw [hz]
    simp only [List.mem_cons, List.not_mem_nil, or_false] at hb
    rcases hb with rfl | rfl | rfl | rfl | rfl | rfl | rfl | rfl | rfl <;> omega
  · intro hb
    simp only [List.mem_cons, List.not_mem_nil, or_false] at hb
    rcases hb with e | e | e | e | e | e | e | e | e
    all_goals first | exact absurd e.symm (by assumption) | (have e' : @Eq Nat L _ := e; omega)
  · intro b hb
    refine new_none F ?_
    simp only [List.mem_cons, List.not_mem_nil, or_false] at hb
    rcases hb with rfl | rfl | rfl | rfl | rfl <;> (show @LE.le Nat _ _ _; omega)
end
end
section
open PySem PySem.W PyProof.Rows PySem.Spec PySem.Calls
set_option linter.unusedVariables false
open PyProof.Rows.LCg (lst lst_snoc NsObj ns_obj)
/-- everything that the call has made, in one list -/
structure All (h₀ : Heap) (L : Addr) (h : Heap) (all : List (Addr × Obj)) : Prop where
  news : News h₀ L h all
  has : ∀ b o, b ≠ L → h.get? b = some o → h₀.get? b = none → (b, o) ∈ all
theorem all_of (h₀ h : Heap) (L : Addr) : ∃ all, All h₀ L h all := by
  refine ⟨(List.range h.objs.size).filterMap fun a => if a = L ∨ (h₀.get? a).isSome = true then none else (h.get? a).map fun o => (a, o), ⟨?_, ?_⟩⟩
  · intro p hp
    obtain ⟨a, _, e⟩ := List.mem_filterMap.mp hp
    split at e
    · cases e
    · rename_i hc
      cases q : h.get? a with
      | none => rw [q] at e; cases e
      | some o =>
        rw [q] at e
        cases e
        refine ⟨q, fun x => hc (.inl x), ?_⟩
        cases r : h₀.get? a with
        | none => rfl
        | some o' => exact absurd (.inr (by rw [r]; rfl)) hc
  · intro b o hb e h0
    refine List.mem_filterMap.mpr ⟨b, List.mem_range.mpr (Heap.lt_size e), ?_⟩
    rw [if_neg (by rw [h0]; simp [hb]), e]
    rfl
section
variable {prog : Program} {w : World} {A : Around} {E : Value → Shared → Prop} {s : Shared} {h₀ : Heap} {L : Addr} {m : Str → Option Value} {mm : Addr → Str → Option Value} {env : Env} {K : Addr → Shared → Prop}
theorem All.kept {h h' : Heap} {all l : List (Addr × Obj)} (A : All h₀ L h all) (F' : Fr h₀ L h' m) (N' : News h₀ L h' l) (sub : ∀ p ∈ all, p ∈ l) : ∀ b o, b ≠ L → h.get? b = some o → (∀ o', h₀.get? b = some o' → o' = o) → h'.get? b = some o := by
  intro b o hb e h0
  cases q : h₀.get? b with
  | none => exact (N' _ (sub _ (A.has b o hb e q))).1
  | some o' => rw [← h0 o' q]; exact F'.keep b o' q
theorem elt_end {gens : Array GenState} {drawn : Drawn} {os : OsState} {C : Addr} {oC : Obj} {m₂ : Str → Option Value} {h h' : Heap} {tk tk' : Nat} {all l : List (Addr × Obj)} {Obs : Value → Heap → Prop} {y : Value} (hA : All h₀ L h all) (hC : NsObj oC m₂) (hm : (C, oC) ∈ l) (F : Fr h₀ L h m) (F' : Fr h₀ L h' m) (N' : News h₀ L h' l) (sub : ∀ p ∈ all, p ∈ l)
    (ob : Obs y h') (nw : ∀ a, y = .ref a → h.get? a = none) : EltEnd h₀ L C m ⟨h, gens, drawn, tk, os⟩ Obs y ⟨h', gens, drawn, tk', os⟩ :=
  ⟨h', tk', m₂, rfl, F', hC.ns (N' _ hm).1, fun b o _ hbL e => hA.kept F' N' sub b o hbL e fun o' q => by have := F.keep b o' q; rw [e] at this; exact (Option.some.inj this).symm, ob, nw⟩
/-- what is walked of a turn -/
def EltW (prog : Program) (w : World) (A : Around) (h₀ : Heap) (L : Addr) (m : Str → Option Value) (env : Env) (elt : PySem.Expr) (scope : Scope) (cl : List (Str × Addr)) (s : Shared) (news : List (Addr × Obj)) (Obs : Value → Heap → Prop) (bind : (Str → Option Value) → Prop) : Prop :=
  ∀ C oC m₂ h tk all (E' : Value → Shared → Prop), NsObj oC m₂ → bind m₂ → (∀ p ∈ news, p.1 < C) → Fr h₀ L h m → News h₀ L h ((C, oC) :: (news ++ all)) → All h₀ L h all →
    wpAny (model prog w) A (eval elt (compEnvC scope cl C env)) (EltEnd h₀ L C m { s with heap := h, toks := tk } Obs) E' { s with heap := h, toks := tk }
theorem EltEnd.back {C : Addr} {h h₃ : Heap} {tk tk₃ : Nat} {Obs : Value → Heap → Prop} {y : Value} {s₅ : Shared} (x : EltEnd h₀ L C m { s with heap := h₃, toks := tk₃ } Obs y s₅) (hk : ∀ b o, b ≠ C → h.get? b = some o → h₃.get? b = some o) (hC : ∃ o, h₃.get? C = some o) : EltEnd h₀ L C m { s with heap := h, toks := tk } Obs y s₅ := by
  obtain ⟨h', tk', mC', rfl, F', hn', hk', ob, nw⟩ := x
  refine ⟨h', tk', mC', rfl, F', hn', fun b o hb hbL e => hk' b o hb hbL (hk _ _ hb e), ob, fun a ha => ?_⟩
  have q := nw a ha
  dsimp only at q ⊢
  cases r : h.get? a with
  | none => rfl
  | some o =>
    by_cases e : a = C
    · obtain ⟨o', e'⟩ := hC
      rw [e, e'] at q; cases q
    · rw [hk _ _ e r] at q; cases q
theorem turn_core {elt target : PySem.Expr} {scope : Scope} {cl : List (Str × Addr)} {news : List (Addr × Obj)} {n : Nat} {P : Nat → Value → Heap → Prop} {Obs : Nat → Value → Heap → Prop} {B : Nat → (Str → Option Value) → Prop} (N : News h₀ L s.heap news)
    (asg : ∀ i v C h tk mC (Q : Unit → Shared → Prop) (E' : Value → Shared → Prop), i < n → P i v h → h.Ns C mC → (∀ h₃ tk₃ m₂, h₃.Ns C m₂ → B i m₂ → (∀ b o, b ≠ C → h.get? b = some o → h₃.get? b = some o) → Q () { s with heap := h₃, toks := tk₃ }) →
      wpAny (model prog w) A (assign target (compEnvC scope cl C env) v) Q E' { s with heap := h, toks := tk })
    (W : ∀ i, i < n → EltW prog w A h₀ L m env elt scope cl s news (Obs i) (B i)) : CTurn prog w A h₀ L m env elt target scope cl s n [] P Obs := by
  intro i v C h tk mC E' hi hp hn hCL hCs hC0 hCl hsz hkeep F
  refine asg i v C h tk mC _ _ hi hp hn fun h₃ tk₃ m₂ hn₃ hb hk₃ => ?_
  obtain ⟨oC, eC, hoC⟩ := ns_obj hn₃
  obtain ⟨all, hA⟩ := all_of h₀ h₃ L
  have F₃ : Fr h₀ L h₃ m := ⟨F.ns.at' fun o e => hk₃ _ o (Ne.symm hCL) e, fun b o e => hk₃ b o (fun q => by rw [q, hC0] at e; cases e) (F.keep b o e), F.above⟩
  have lt : ∀ p ∈ news, p.1 < C := fun p hp => Nat.lt_of_lt_of_le (Heap.lt_size (N p hp).1) hCs
  have N₃ : News h₀ L h₃ ((C, oC) :: (news ++ all)) := fun p hp => by
    rcases List.mem_cons.mp hp with rfl | hp
    · exact ⟨eC, hCL, hC0⟩
    · rcases List.mem_append.mp hp with hp | hp
      · exact ⟨hk₃ _ _ (Nat.ne_of_lt (lt p hp)) (hkeep _ _ (by simp) (N p hp).2.1 (N p hp).1), (N p hp).2⟩
      · exact hA.news p hp
  exact wpAny_mono (W i hi C oC m₂ h₃ tk₃ all E' hoC hb lt F₃ N₃ hA) (fun y s₅ h₅ => h₅.back hk₃ ⟨_, eC⟩) fun _ _ e => e
theorem turn_name {elt : PySem.Expr} {x : Str} {px : Pos} {scope : Scope} {cl : List (Str × Addr)} {news : List (Addr × Obj)} {xs : Array Value} {n : Nat} {Obs : Nat → Value → Heap → Prop} (hkind : scope.kind = .function) (hx : scope.names.lookup x = some .local) (N : News h₀ L s.heap news)
    (W : ∀ i v, i < n → xs[i]? = some v → EltW prog w A h₀ L m env elt scope cl s news (Obs i) (fun m₂ => m₂ x = some v)) : CTurn prog w A h₀ L m env elt (.Name x px) scope cl s n [] (fun i v _ => xs[i]? = some v) Obs := by
  intro i v C h tk mC E' hi hp
  exact turn_core (n := i + 1) (P := fun j v' _ => j = i ∧ v' = v) (B := fun _ m₂ => m₂ x = some v) (Obs := fun _ => Obs i) N
    (fun j v' C h tk mC Q E' _ e hn k => by
      obtain ⟨_, rfl⟩ := e
      exact wpAny_assign_Name (wpAny_storeName_local (lookup_relabel_local hx) hn (fun h₃ hn₃ hs₃ => k h₃ _ _ hn₃ (by simp) fun b o hb e => hs₃.extBut b o hb e) (by simp [compEnvC, relabel, hkind])))
    (fun j _ => W i v hi hp) i v C h tk mC E' (Nat.lt_succ_self _) ⟨rfl, rfl⟩
theorem turn_pair {elt : PySem.Expr} {a b : Str} {pa pb tp : Pos} {kk : Nat} {scope : Scope} {cl : List (Str × Addr)} {news : List (Addr × Obj)} {xs1 xs2 : Array Value} {n : Nat} {Obs : Nat → Value → Heap → Prop} (hh : A.handled = none) (hkind : scope.kind = .function) (ha : scope.names.lookup a = some .local) (hb : scope.names.lookup b = some .local) (hab : a ≠ b) (N : News h₀ L s.heap news)
    (W : ∀ i x1 x2, i < n → xs1[i]? = some x1 → xs2[i]? = some x2 → EltW prog w A h₀ L m env elt scope cl s news (Obs i) (fun m₂ => m₂ a = some x1 ∧ m₂ b = some x2)) :
    CTurn prog w A h₀ L m env elt (.Tuple [.Name a pa, .Name b pb] kk tp) scope cl s n [] (fun i v h => ∃ T x1 x2, v = .ref T ∧ xs1[i]? = some x1 ∧ xs2[i]? = some x2 ∧ IsTup2 h T x1 x2) Obs := by
  intro i v C h tk mC E' hi hp
  obtain ⟨T, x1, x2, rfl, g1, g2, hT⟩ := hp
  exact turn_core (n := i + 1) (P := fun j v' h' => j = i ∧ v' = .ref T ∧ IsTup2 h' T x1 x2) (B := fun _ m₂ => m₂ a = some x1 ∧ m₂ b = some x2) (Obs := fun _ => Obs i) N
    (fun j v' C h tk mC Q E' _ e hn k => by
      obtain ⟨_, rfl, hT⟩ := e
      exact kcp_assign hh ⟨_, hT, rfl, _, rfl⟩ (lookup_relabel_local ha) (lookup_relabel_local hb) (by simp [compEnvC, relabel, hkind]) hn fun h' tk' hn' hk' => k h' tk' _ hn' ⟨by simp [hab], by simp⟩ fun c o hc e => hk' c o hc e)
    (fun j _ => W i x1 x2 hi g1 g2) i _ C h tk mC E' (Nat.lt_succ_self _) ⟨rfl, rfl, hT⟩
theorem assign3 {env : Env} {a b c : Str} {pa pb pc tp : Pos} {kk : Nat} {T : Addr} {x y z : Value} {m : Str → Option Value} {Q : Unit → Shared → Prop} (hh : A.handled = none) (ht : s.heap.IsTuple T #[x, y, z])
    (ha : env.kindOf a = some .local) (hb : env.kindOf b = some .local) (hc : env.kindOf c = some .local) (hp : (env.scope.kind == .class || (env.scope.kind == .module && env.locals != env.globals)) = false) (hn : s.heap.Ns env.locals m)
    (h : ∀ (h' : Heap) (tk : Nat), h'.Ns env.locals (fun v => if v = c then some z else if v = b then some y else if v = a then some x else m v) → (∀ c o, c ≠ env.locals → s.heap.get? c = some o → h'.get? c = some o) → Q () { s with heap := h', toks := tk }) :
    wpAny (model prog w) A (assign (.Tuple [.Name a pa, .Name b pb, .Name c pc] kk tp) env (.ref T)) Q E s := by
  refine wpAny_assign_Tuple hh ht rfl rfl fun h₁ he₁ => ?_
  have hL : env.locals ≠ s.heap.objs.size := Nat.ne_of_lt hn.lt
  have hn₁ : h₁.Ns env.locals m := hn.at' fun o e => he₁ _ o hL e
  have up₁ : ∀ c o, s.heap.get? c = some o → h₁.get? c = some o := fun c o e => he₁ c o (Nat.ne_of_lt (Heap.lt_size e)) e
  show wpAny _ _ (assignInOrder [assign (.Name a pa) env, assign (.Name b pb) env, assign (.Name c pc) env] [x, y, z]) _ _ _
  refine assignInOrder_cons ?_
  refine wpAny_assign_Name (wpAny_storeName_local ha hn₁ (fun h₂ hn₂ hs₂ => ?_) hp)
  refine assignInOrder_cons ?_
  refine wpAny_assign_Name (wpAny_storeName_local hb hn₂ (fun h₃ hn₃ hs₃ => ?_) hp)
  refine assignInOrder_cons ?_
  refine wpAny_assign_Name (wpAny_storeName_local hc hn₃ (fun h₄ hn₄ hs₄ => ?_) hp)
  refine assignInOrder_nil ?_
  exact h h₄ _ hn₄ fun c o hc e => hs₄.extBut c o hc (hs₃.extBut c o hc (hs₂.extBut c o hc (up₁ c o e)))
theorem turn_three {elt : PySem.Expr} {a b c : Str} {pa pb pc tp : Pos} {kk : Nat} {scope : Scope} {cl : List (Str × Addr)} {news : List (Addr × Obj)} {xs1 xs2 xs3 : Array Value} {n : Nat} {Obs : Nat → Value → Heap → Prop} (hh : A.handled = none) (hkind : scope.kind = .function) (ha : scope.names.lookup a = some .local) (hb : scope.names.lookup b = some .local) (hc : scope.names.lookup c = some .local) (hab : a ≠ b) (hac : a ≠ c) (hbc : b ≠ c) (N : News h₀ L s.heap news)
    (W : ∀ i x1 x2 x3, i < n → xs1[i]? = some x1 → xs2[i]? = some x2 → xs3[i]? = some x3 → EltW prog w A h₀ L m env elt scope cl s news (Obs i) (fun m₂ => m₂ a = some x1 ∧ m₂ b = some x2 ∧ m₂ c = some x3)) :
    CTurn prog w A h₀ L m env elt (.Tuple [.Name a pa, .Name b pb, .Name c pc] kk tp) scope cl s n [] (fun i v h => ∃ T x1 x2 x3, v = .ref T ∧ xs1[i]? = some x1 ∧ xs2[i]? = some x2 ∧ xs3[i]? = some x3 ∧ IsTup3 h T x1 x2 x3) Obs := by
  intro i v C h tk mC E' hi hp
  obtain ⟨T, x1, x2, x3, rfl, g1, g2, g3, hT⟩ := hp
  exact turn_core (n := i + 1) (P := fun j v' h' => j = i ∧ v' = .ref T ∧ IsTup3 h' T x1 x2 x3) (B := fun _ m₂ => m₂ a = some x1 ∧ m₂ b = some x2 ∧ m₂ c = some x3) (Obs := fun _ => Obs i) N
    (fun j v' C h tk mC Q E' _ e hn k => by
      obtain ⟨_, rfl, hT⟩ := e
      exact assign3 hh ⟨_, hT, rfl, _, rfl⟩ (lookup_relabel_local ha) (lookup_relabel_local hb) (lookup_relabel_local hc) (by simp [compEnvC, relabel, hkind]) hn fun h' tk' hn' hk' => k h' tk' _ hn' ⟨by simp [hab, hac], by simp [hbc], by simp⟩ fun c o hc e => hk' c o hc e)
    (fun j _ => W i x1 x2 x3 hi g1 g2 g3) i _ C h tk mC E' (Nat.lt_succ_self _) ⟨rfl, rfl, hT⟩
/-- ints -/
def obsI (vs : List Int) : Nat → Value → Heap → Prop := fun i y _ => ∃ t, y = .int (vs.getD i 0) t
theorem obsI_ok (vs : List Int) : ObsOk (obsI vs) := fun _ _ _ _ h _ => h
theorem news_kept {news : List (Addr × Obj)} {h : Heap} (N : News h₀ L s.heap news) (hk : ∀ b o, b ∉ ([] : List Addr) → b ≠ L → s.heap.get? b = some o → h.get? b = some o) : News h₀ L h news :=
  fun p hp => ⟨hk _ _ (by simp) (N p hp).2.1 (N p hp).1, (N p hp).2⟩
theorem fin_int3 {news : List (Addr × Obj)} {v0 v1 v2 : Int} (N : News h₀ L s.heap news) (k : ∀ D h tk t0 t1 t2, Fr h₀ L h (mm D) → News h₀ L h ((D, lst [.int v0 t0, .int v1 t1, .int v2 t2]) :: news) → (∀ p ∈ news, p.1 < D) → K D { s with heap := h, toks := tk }) :
    CFin h₀ L mm s 3 [] (obsI [v0, v1, v2]) K := by
  intro D h tk ys hl F hD hD0 hDL hDs hk hO
  match ys, hl with
  | [y0, y1, y2], _ =>
    obtain ⟨⟨t0, e0⟩, _⟩ := hO 0 y0 rfl
    obtain ⟨⟨t1, e1⟩, _⟩ := hO 1 y1 rfl
    obtain ⟨⟨t2, e2⟩, _⟩ := hO 2 y2 rfl
    subst e0 e1 e2
    refine k D h tk t0 t1 t2 F (fun p hp => ?_) (fun p hp => Nat.lt_of_lt_of_le (Heap.lt_size (N p hp).1) hDs)
    rcases List.mem_cons.mp hp with rfl | hp
    · exact ⟨hD, hDL, hD0⟩
    · exact news_kept N hk p hp
end
end
section
open PySem PySem.W PyProof.Rows PySem.Spec PySem.Calls
set_option linter.unusedVariables false
open PyProof.Rows.LCg (lst lst_snoc)

section
variable {prog : Program} {w : World} {A : Around} {E : Value → Shared → Prop} {s : Shared} {h₀ : Heap} {L : Addr} {m : Str → Option Value} {env : Env}
/-- what a turn of a for gives -/
def ForEnd (h₀ : Heap) (L : Addr) (l : List (Addr × Obj)) (J : (Str → Option Value) → Prop) (s₁ : Shared) (Q : Flow → Shared → Prop) (f : Flow) (s₂ : Shared) : Prop :=
  match f with
  | .ret v => Q (.ret v) s₂
  | .next => ∃ h' tk' m', s₂ = { s₁ with heap := h', toks := tk' } ∧ Fr h₀ L h' m' ∧ News h₀ L h' l ∧ J m'
  | _ => False
theorem turns_at2 {body : List Stmt} {Q : Flow → Shared → Prop} {na nb : Str} {pna pnb tp : Pos} {kk : Nat} {l1 l2 : Addr} {xs1 xs2 : Array Value} {b1 b2 : Bool} {n : Nat} {news : List (Addr × Obj)} (J : Nat → (Str → Option Value) → Prop)
    (hh : A.handled = none) (F : Fr h₀ env.locals s.heap m) (N : News h₀ env.locals s.heap news) (hs1 : SrcOk l1 xs1 b1 s.heap) (hs2 : SrcOk l2 xs2 b2 s.heap) (hl1 : l1 ≠ env.locals) (hl2 : l2 ≠ env.locals) (hn1 : xs1.size = n) (hn2 : xs2.size = n)
    (kna : env.kindOf na = some .local) (knb : env.kindOf nb = some .local) (hp : (env.scope.kind == .class || (env.scope.kind == .module && env.locals != env.globals)) = false) (hj : J 0 m)
    (turn : ∀ i x1 x2 m₁ h tk own, i < n → xs1[i]? = some x1 → xs2[i]? = some x2 → J i m₁ → Fr h₀ env.locals h (fun y => if y = nb then some x2 else if y = na then some x1 else m₁ y) → News h₀ env.locals h (news ++ own) →
      wpAny (model prog w) A (execs body env) (ForEnd h₀ env.locals (news ++ own) (J (i + 1)) { s with heap := h, toks := tk } Q) E { s with heap := h, toks := tk })
    (done : ∀ m₁ h tk, J n m₁ → Fr h₀ env.locals h m₁ → News h₀ env.locals h news → Q .next { s with heap := h, toks := tk }) :
    wpAny (model prog w) A (call (.type "zip") [.ref l1, .ref l2]) (fun xv s₁ => wpAny (model prog w) A (pyIter xv) (fun it s₂ => TurnsAt prog w A h₀ env (.Tuple [.Name na pna, .Name nb pnb] kk tp) body Q E it s₂) E s₁) E s := by
  have q1 : @LT.lt Nat _ l1 s.heap.objs.size := hs1.lt
  have q2 : @LT.lt Nat _ l2 s.heap.objs.size := hs2.lt
  have qL : @LT.lt Nat _ env.locals s.heap.objs.size := F.ns.lt
  refine call_zip2 hs1 hs2 fun h' D S hz hk => ?_
  refine wpAny_pyIter_zip S.hz ?_
  have wrn : ∀ b ∈ [(s.heap.objs.size + 4), (s.heap.objs.size + 3), s.heap.objs.size, (s.heap.objs.size + 1)], s.heap.objs.size ≤ b := fun b hb => by
    simp only [List.mem_cons, List.not_mem_nil, or_false] at hb
    rcases hb with rfl | rfl | rfl | rfl <;> (show @LE.le Nat _ _ _; omega)
  have offN : ∀ p ∈ news, p.1 ∉ [(s.heap.objs.size + 4), (s.heap.objs.size + 3), s.heap.objs.size, (s.heap.objs.size + 1)] := fun p hp hb => absurd (Heap.lt_size (N p hp).1) (Nat.not_lt.mpr (wrn _ hb))
  refine ⟨_, [(s.heap.objs.size + 4), (s.heap.objs.size + 2), (s.heap.objs.size + 3), s.heap.objs.size, (s.heap.objs.size + 1), l1, l2], [(s.heap.objs.size + 4), (s.heap.objs.size + 3), s.heap.objs.size, (s.heap.objs.size + 1)], n, _, _, _, m, news, (fun i m₁ nw => nw = news ∧ J i m₁), rfl, turns_zip2 hh D hn1 hn2 _ kk tp, ?_, fun b hb => new_none F (wrn b hb), offN, S, F.keeps hk, N.grown hk, ⟨rfl, hj⟩, ?_, ?_⟩
  · intro hb
    simp only [List.mem_cons, List.not_mem_nil, or_false] at hb
    rcases hb with e | e | e | e | e | e | e
    all_goals first | exact absurd e.symm (by assumption) | (have e' : @Eq Nat env.locals _ := e; omega)
  · rintro i v m₁ nw h1 tk1 own hi ⟨T, x1, x2, rfl, g1, g2, hT⟩ ⟨rfl, hJ⟩ hoff hown hget hall hst F₁ N₁
    have hL1 : env.locals ≠ h1.objs.size := Nat.ne_of_lt F₁.ns.lt
    refine kcp_assign hh ⟨_, hT, rfl, _, rfl⟩ kna knb hp F₁.ns fun h2 tk2 hn2 hk2 => ?_
    have F₂ : Fr h₀ env.locals h2 _ := ⟨hn2, fun b o e => hk2 b o (fun q => by rw [q, Heap.get?_none_of_le F₁.above] at e; cases e) (F₁.keep b o e), F₁.above⟩
    have N₂ : News h₀ env.locals h2 (nw ++ own) := fun p hp => by
      have hp' : p ∈ own ++ nw := by rcases List.mem_append.mp hp with h | h; exact List.mem_append_right _ h; exact List.mem_append_left _ h
      exact ⟨hk2 _ _ (N₁ p hp').2.1 (N₁ p hp').1, (N₁ p hp').2⟩
    refine wpAny_mono (turn i x1 x2 m₁ h2 tk2 own hi g1 g2 hJ F₂ N₂) (fun f s₃ h₃ => ?_) fun _ _ e => e
    cases f with
    | ret v => exact .ret h₃
    | brk => exact h₃.elim
    | cont => exact h₃.elim
    | next =>
      obtain ⟨h3, tk3, m3, rfl, F₃, N₃, hJ3⟩ := h₃
      refine .next ⟨rfl, h3, tk3, m3, nw, rfl, F₃, fun p hp => N₃ p ?_, hoff, rfl, hJ3⟩
      rcases List.mem_append.mp hp with h | h
      · exact List.mem_append_right _ h
      · exact List.mem_append_left _ h
  · rintro h1 tk1 m1 nw F₁ N₁ _ ⟨rfl, hJ⟩
    exact done m1 h1 tk1 hJ F₁ N₁
theorem turns_at3 {body : List Stmt} {Q : Flow → Shared → Prop} {na nb nc : Str} {pna pnb pnc tp : Pos} {kk : Nat} {l1 l2 l3 : Addr} {xs1 xs2 xs3 : Array Value} {b1 b2 b3 : Bool} {n : Nat} {news : List (Addr × Obj)} (J : Nat → (Str → Option Value) → Prop)
    (hh : A.handled = none) (F : Fr h₀ env.locals s.heap m) (N : News h₀ env.locals s.heap news) (hs1 : SrcOk l1 xs1 b1 s.heap) (hs2 : SrcOk l2 xs2 b2 s.heap) (hs3 : SrcOk l3 xs3 b3 s.heap) (hl1 : l1 ≠ env.locals) (hl2 : l2 ≠ env.locals) (hl3 : l3 ≠ env.locals) (hn1 : xs1.size = n) (hn2 : xs2.size = n) (hn3 : xs3.size = n)
    (kna : env.kindOf na = some .local) (knb : env.kindOf nb = some .local) (knc : env.kindOf nc = some .local) (hp : (env.scope.kind == .class || (env.scope.kind == .module && env.locals != env.globals)) = false) (hj : J 0 m)
    (turn : ∀ i x1 x2 x3 m₁ h tk own, i < n → xs1[i]? = some x1 → xs2[i]? = some x2 → xs3[i]? = some x3 → J i m₁ → Fr h₀ env.locals h (fun y => if y = nc then some x3 else if y = nb then some x2 else if y = na then some x1 else m₁ y) → News h₀ env.locals h (news ++ own) →
      wpAny (model prog w) A (execs body env) (ForEnd h₀ env.locals (news ++ own) (J (i + 1)) { s with heap := h, toks := tk } Q) E { s with heap := h, toks := tk })
    (done : ∀ m₁ h tk, J n m₁ → Fr h₀ env.locals h m₁ → News h₀ env.locals h news → Q .next { s with heap := h, toks := tk }) :
    wpAny (model prog w) A (call (.type "zip") [.ref l1, .ref l2, .ref l3]) (fun xv s₁ => wpAny (model prog w) A (pyIter xv) (fun it s₂ => TurnsAt prog w A h₀ env (.Tuple [.Name na pna, .Name nb pnb, .Name nc pnc] kk tp) body Q E it s₂) E s₁) E s := by
  have q1 : @LT.lt Nat _ l1 s.heap.objs.size := hs1.lt
  have q2 : @LT.lt Nat _ l2 s.heap.objs.size := hs2.lt
  have q3 : @LT.lt Nat _ l3 s.heap.objs.size := hs3.lt
  have qL : @LT.lt Nat _ env.locals s.heap.objs.size := F.ns.lt
  refine call_zip3 hs1 hs2 hs3 fun h' D S hz hk => ?_
  refine wpAny_pyIter_zip S.hz ?_
  have wrn : ∀ b ∈ [(s.heap.objs.size + 5), (s.heap.objs.size + 4), s.heap.objs.size, (s.heap.objs.size + 1), (s.heap.objs.size + 2)], s.heap.objs.size ≤ b := fun b hb => by
    simp only [List.mem_cons, List.not_mem_nil, or_false] at hb
    rcases hb with rfl | rfl | rfl | rfl | rfl <;> (show @LE.le Nat _ _ _; omega)
  have offN : ∀ p ∈ news, p.1 ∉ [(s.heap.objs.size + 5), (s.heap.objs.size + 4), s.heap.objs.size, (s.heap.objs.size + 1), (s.heap.objs.size + 2)] := fun p hp hb => absurd (Heap.lt_size (N p hp).1) (Nat.not_lt.mpr (wrn _ hb))
  refine ⟨_, [(s.heap.objs.size + 5), (s.heap.objs.size + 3), (s.heap.objs.size + 4), s.heap.objs.size, (s.heap.objs.size + 1), (s.heap.objs.size + 2), l1, l2, l3], [(s.heap.objs.size + 5), (s.heap.objs.size + 4), s.heap.objs.size, (s.heap.objs.size + 1), (s.heap.objs.size + 2)], n, _, _, _, m, news, (fun i m₁ nw => nw = news ∧ J i m₁), rfl, turns_zip3 hh D hn1 hn2 hn3 _ kk tp, ?_, fun b hb => new_none F (wrn b hb), offN, S, F.keeps hk, N.grown hk, ⟨rfl, hj⟩, ?_, ?_⟩
  · intro hb
    simp only [List.mem_cons, List.not_mem_nil, or_false] at hb
    rcases hb with e | e | e | e | e | e | e | e | e
    all_goals first | exact absurd e.symm (by assumption) | (have e' : @Eq Nat env.locals _ := e; omega)
  · rintro i v m₁ nw h1 tk1 own hi ⟨T, x1, x2, x3, rfl, g1, g2, g3, hT⟩ ⟨rfl, hJ⟩ hoff hown hget hall hst F₁ N₁
    have hL1 : env.locals ≠ h1.objs.size := Nat.ne_of_lt F₁.ns.lt
    refine assign3 hh ⟨_, hT, rfl, _, rfl⟩ kna knb knc hp F₁.ns fun h2 tk2 hn2 hk2 => ?_
    have F₂ : Fr h₀ env.locals h2 _ := ⟨hn2, fun b o e => hk2 b o (fun q => by rw [q, Heap.get?_none_of_le F₁.above] at e; cases e) (F₁.keep b o e), F₁.above⟩
    have N₂ : News h₀ env.locals h2 (nw ++ own) := fun p hp => by
      have hp' : p ∈ own ++ nw := by rcases List.mem_append.mp hp with h | h; exact List.mem_append_right _ h; exact List.mem_append_left _ h
      exact ⟨hk2 _ _ (N₁ p hp').2.1 (N₁ p hp').1, (N₁ p hp').2⟩
    refine wpAny_mono (turn i x1 x2 x3 m₁ h2 tk2 own hi g1 g2 g3 hJ F₂ N₂) (fun f s₃ h₃ => ?_) fun _ _ e => e
    cases f with
    | ret v => exact .ret h₃
    | brk => exact h₃.elim
    | cont => exact h₃.elim
    | next =>
      obtain ⟨h3, tk3, m3, rfl, F₃, N₃, hJ3⟩ := h₃
      refine .next ⟨rfl, h3, tk3, m3, nw, rfl, F₃, fun p hp => N₃ p ?_, hoff, rfl, hJ3⟩
      rcases List.mem_append.mp hp with h | h
      · exact List.mem_append_right _ h
      · exact List.mem_append_left _ h
  · rintro h1 tk1 m1 nw F₁ N₁ _ ⟨rfl, hJ⟩
    exact done m1 h1 tk1 hJ F₁ N₁
end
end
theorem gen_toks {α : Type} {M : Model} {A : Around} {t : Sem α} {Q : α → Shared → Prop} {E : Value → Shared → Prop} {h : Heap} {g : Array GenState} {d : Drawn} {X : Nat} {os : OsState} (H : ∀ tk : Nat, wpAny M A t Q E ⟨h, g, d, tk, os⟩) : wpAny M A t Q E ⟨h, g, d, X, os⟩ := H X
section
open PyProof.Rows.LCg (lst NsObj)
set_option linter.unusedVariables false
local macro_rules | `(tactic| walk_at "execs cons") => `(tactic| (k_here; (with_reducible refine gen_toks (X := _ + _) ?_); intro tk))
local macro_rules | `(tactic| walk_at "execs nil") => `(tactic| (k_here; (with_reducible refine gen_toks (X := _ + _) ?_); intro tk))
local macro_rules | `(tactic| k_qdec) => `(tactic| decide +kernel)
local macro_rules | `(tactic| k_room) => `(tactic| first
  | exact Room.d0 (by assumption)
  | exact Room.d0 (Room.s1 (by assumption))
  | exact Room.d0 (Room.s1 (Room.s1 (by assumption)))
  | exact Room.d0 (Room.s1 (Room.s1 (Room.s1 (by assumption)))))
local macro_rules | `(tactic| ktr_room) => `(tactic| k_room)
local macro_rules | `(tactic| k_units) => `(tactic| first
  | exact Room.u0 (by assumption)
  | exact Room.u0 (Room.s1 (by assumption))
  | exact Room.u0 (Room.s1 (Room.s1 (by assumption)))
  | exact Room.u1 (by assumption)
  | exact Room.u1 (Room.s1 (by assumption))
  | exact Room.u1 (Room.s1 (Room.s1 (by assumption))))
local macro_rules | `(tactic| walk_at "eval Call Name") => `(tactic| (k_here; refine Call_ ?_))
local macro_rules | `(tactic| k_steps) => `(tactic| repeat' (first | (k_unfold; (try dsimp only)) | walk1 | (dsimp only; walk1) | fail "no step"))
local macro_rules | `(tactic| walk_at "MINE room") => `(tactic| first
  | exact Room.le (Room.s1 (by assumption)) (by decide)
  | exact Room.le (Room.s1 (Room.s1 (by assumption))) (by decide)
  | exact Room.le (Room.s1 (Room.s1 (Room.s1 (by assumption)))) (by decide)
  | exact Room.le (by assumption) (by decide)
  | exact ⟨by decide, by decide⟩)
local macro_rules | `(tactic| walk_at "MINE use") => `(tactic| (
  (case k1 => k_asm); (case k2 => k_asm); (case k3 => k_asm); (case k4 => k_asm); (case k5 => k_asm); (case kK => first | exact rfl | assumption);
  (case kr => walk_at "MINE room"); (intro t9 h9 tk9 F9 N9); (try dsimp only); (try k_fold)))
local macro_rules | `(tactic| walk_at "MINE open") => `(tactic| (
  (dsimp only [Clm, CbRet, prog0, loose0]); k_fill))
local macro_rules | `(tactic| walk_at "MINE end") => `(tactic| (first | assumption | w_report))
section
open PySem PySem.W PyProof.Rows

theorem is_whole_c (w : World) (mean : ExcName → Option Value) (mg mb : Str → Option Value) (news : CbLed) (a : Int) (ta : Tok) : Clm w mean mg mb 2 157 news [.int a ta] (fun _ => .bool true) := by
  walk_at "MINE open"
  intros; rename_i hret
  refine wpAny_call ?_
  k_dflt cell_enter
  k_steps
  all_goals cb_end hret

theorem fits_lo {x : Int} (h : Fits x) : decide (-(1 * 2 ^ (32 - 1 : Int).toNat) ≤ x) = true := decide_eq_true (by have := h.lo; simpa using this)
theorem fits_hi {x : Int} (h : Fits x) : decide (x < 1 * 2 ^ (32 - 1 : Int).toNat) = true := decide_eq_true (by have := h.hi; simpa using this)
local macro_rules | `(tactic| walk_at "ite") => `(tactic| (k_here; first | refine ite_pos (fits_lo (by assumption)) ?_ | refine ite_pos (fits_hi (by assumption)) ?_))
local macro_rules | `(tactic| cb_eq) => `(tactic| first | exact fits_lo (by assumption) | exact fits_hi (by assumption))
theorem fits_c (w : World) (mean : ExcName → Option Value) (mg mb : Str → Option Value) (news : CbLed) (x : Int) (hx : Fits x) (t1 t2 : Tok) : Clm w mean mg mb 2 72 news [.int x t1, .int 32 t2] (fun _ => .bool true) := by
  walk_at "MINE open"
  intros; rename_i hret
  refine wpAny_call ?_
  k_dflt cell_enter
  k_steps
  all_goals cb_end hret

local macro_rules | `(tactic| walk_at "call ref") => `(tactic| (k_here; k_dflt (first
  | (refine' Clm.use (is_whole_c _ _ _ _ _ _ _) ?k1 ?k2 ?k3 ?k4 ?k5 ?kK ?kr ?_; walk_at "MINE use")
  | (refine' Clm.use (fits_c _ _ _ _ _ _ (by assumption) _ _) ?k1 ?k2 ?k3 ?k4 ?k5 ?kK ?kr ?_; walk_at "MINE use"))))
theorem settled_c (w : World) (mean : ExcName → Option Value) (mg mb : Str → Option Value) (news : CbLed) (x : Int) (hx : Fits x) (t1 t2 t3 : Tok) : Clm w mean mg mb 5 164 news [.int x t1, .int 32 t2, .int 9 t3] (fun t => .int x t) := by
  walk_at "MINE open"
  intros; rename_i hret
  refine wpAny_call ?_
  k_dflt cell_enter
  k_steps
  all_goals cb_end hret
theorem whole_of_c (w : World) (mean : ExcName → Option Value) (mg mb : Str → Option Value) (news : CbLed) (x : Int) (hx : Fits x) (t1 t2 : Tok) : Clm w mean mg mb 5 79 news [.int x t1, .int 32 t2] (fun t => .int x t) := by
  walk_at "MINE open"
  intros; rename_i hret
  refine wpAny_call ?_
  k_dflt cell_enter
  k_steps
  all_goals cb_end hret
end
section
open PySem PySem.W PyProof.Rows


theorem tq_ne {b : Int} (h : 0 < b) : (if b < 0 then -b else b) ≠ 0 := by split <;> omega
theorem tq_pos {a b : Int} (hb : 0 < b) (h : (decide (a < 0) == decide (b < 0)) = true) : (if a < 0 then -a else a).fdiv (if b < 0 then -b else b) = Int.tdiv a b := by
  have hb' : ¬ b < 0 := by omega
  have ha' : ¬ a < 0 := by intro q; simp [hb', q] at h
  rw [if_neg ha', if_neg hb', Int.fdiv_eq_ediv_of_nonneg _ (by omega), Int.tdiv_eq_ediv_of_nonneg (by omega)]
theorem tq_neg {a b : Int} (hb : 0 < b) (h : (decide (a < 0) == decide (b < 0)) = false) : 0 - (if a < 0 then -a else a).fdiv (if b < 0 then -b else b) = Int.tdiv a b := by
  have hb' : ¬ b < 0 := by omega
  have ha' : a < 0 := by false_or_by_contra; rename_i q; simp [hb', q] at h
  rw [if_pos ha', if_neg hb', Int.fdiv_eq_ediv_of_nonneg _ (by omega)]
  have e : a = -(-a) := by omega
  rw [e, Int.neg_tdiv, Int.tdiv_eq_ediv_of_nonneg (by omega)]
  simp
local macro_rules | `(tactic| cb_eq) => `(tactic| first | exact tq_pos (by assumption) (by assumption) | exact tq_neg (by assumption) (by assumption) | (dsimp only; fail "look"))
local macro_rules | `(tactic| walk_at "MINE arith") => `(tactic| (law_clear; (try simp only [decide_eq_true_eq, decide_eq_false_iff_not, Bool.not_eq_true, beq_iff_eq, bne_iff_ne, ne_eq]); omega))
local macro_rules | `(tactic| walk_at "ite") => `(tactic| (k_here; k_openite; first | refine ite_pos (by walk_at "MINE arith") ?_ | refine ite_neg (by walk_at "MINE arith") ?_))
local macro_rules | `(tactic| walk_at "binaryOp FloorDiv int int") => `(tactic| (k_here; refine floordiv_int (tq_ne (by assumption)) ?_ (Or.inl (PyProof.noPylong_small (by law_clear; omega)))))
theorem cut_quotient_c (w : World) (mean : ExcName → Option Value) (mg mb : Str → Option Value) (news : CbLed) (a b : Int) (ha1 : -2147483648 ≤ a) (ha2 : a < 2147483648) (hb : 0 < b) (hb2 : b < 1000000) (t1 t2 : Tok) : Clm w mean mg mb 2 178 news [.int a t1, .int b t2] (fun t => .int (Int.tdiv a b) t) := by
  walk_at "MINE open"
  intros; rename_i hret
  refine wpAny_call ?_
  k_dflt cell_enter
  k_steps
  all_goals cb_end hret
local macro_rules | `(tactic| walk_at "call ref") => `(tactic| (k_here; k_dflt (first
  | (refine' Clm.use (cut_quotient_c _ _ _ _ _ _ _ (by assumption) (by assumption) (by assumption) (by assumption) _ _) ?k1 ?k2 ?k3 ?k4 ?k5 ?kK ?kr ?_; walk_at "MINE use"))))

theorem tm_eq {a b : Int} : a - b * Int.tdiv a b = Int.tmod a b := (Int.tmod_def a b).symm
local macro_rules | `(tactic| walk_at "binaryOp Mult int int") => `(tactic| (k_here; with_reducible refine mul_int ?_))
local macro_rules | `(tactic| cb_eq) => `(tactic| exact tm_eq)
theorem cut_rest_c (w : World) (mean : ExcName → Option Value) (mg mb : Str → Option Value) (news : CbLed) (a b : Int) (ha1 : -2147483648 ≤ a) (ha2 : a < 2147483648) (hb : 0 < b) (hb2 : b < 1000000) (t1 t2 : Tok) : Clm w mean mg mb 5 185 news [.int a t1, .int b t2] (fun t => .int (Int.tmod a b) t) := by
  walk_at "MINE open"
  intros; rename_i hret
  refine wpAny_call ?_
  k_dflt cell_enter
  k_steps
  all_goals cb_end hret
local macro_rules | `(tactic| walk_at "call ref") => `(tactic| (k_here; k_dflt (first
  | (refine' Clm.use (is_whole_c _ _ _ _ _ _ _) ?k1 ?k2 ?k3 ?k4 ?k5 ?kK ?kr ?_; walk_at "MINE use")
  | (refine' Clm.use (settled_c _ _ _ _ _ _ (by assumption) _ _ _) ?k1 ?k2 ?k3 ?k4 ?k5 ?kK ?kr ?_; walk_at "MINE use")
  | (refine' Clm.use (whole_of_c _ _ _ _ _ _ (by assumption) _ _) ?k1 ?k2 ?k3 ?k4 ?k5 ?kK ?kr ?_; walk_at "MINE use")
  | (refine' Clm.use (cut_quotient_c _ _ _ _ _ _ _ (Fits.lo (by assumption)) (Fits.hi (by assumption)) (by assumption) (by assumption) _ _) ?k1 ?k2 ?k3 ?k4 ?k5 ?kK ?kr ?_; walk_at "MINE use")
  | (refine' Clm.use (cut_rest_c _ _ _ _ _ _ _ (Fits.lo (by assumption)) (Fits.hi (by assumption)) (by assumption) (by assumption) _ _) ?k1 ?k2 ?k3 ?k4 ?k5 ?kK ?kr ?_; walk_at "MINE use"))))
theorem fits_of_pos {b : Int} (h : 0 < b) (h2 : b < 1000000) : Fits b := ⟨by omega, by omega⟩
theorem wr_add (w : World) (mean : ExcName → Option Value) (mg mb : Str → Option Value) (news : CbLed) (a b : Int) (hF : Fits (a + b)) (t1 t2 t3 t4 t5 : Tok) : Clm w mean mg mb 8 171 news [.str (Str.ofString "+") t1, .int a t2, .int b t3, .int 32 t4, .int 9 t5] (fun t => .int (a + b) t) := by
  walk_at "MINE open"
  intros; rename_i hret
  refine wpAny_call ?_
  k_dflt cell_enter
  k_steps
  all_goals cb_end hret
theorem wr_sub (w : World) (mean : ExcName → Option Value) (mg mb : Str → Option Value) (news : CbLed) (a b : Int) (hF : Fits (a - b)) (t1 t2 t3 t4 t5 : Tok) : Clm w mean mg mb 8 171 news [.str (Str.ofString "-") t1, .int a t2, .int b t3, .int 32 t4, .int 9 t5] (fun t => .int (a - b) t) := by
  walk_at "MINE open"
  intros; rename_i hret
  refine wpAny_call ?_
  k_dflt cell_enter
  k_steps
  all_goals cb_end hret
theorem wr_mul (w : World) (mean : ExcName → Option Value) (mg mb : Str → Option Value) (news : CbLed) (a b : Int) (ha : -1000000 ≤ a) (ha' : a < 1000000) (hb : -1000000 ≤ b) (hb' : b < 1000000) (hF : Fits (a * b)) (t1 t2 t3 t4 t5 : Tok) : Clm w mean mg mb 8 171 news [.str (Str.ofString "*") t1, .int a t2, .int b t3, .int 32 t4, .int 9 t5] (fun t => .int (a * b) t) := by
  walk_at "MINE open"
  intros; rename_i hret
  refine wpAny_call ?_
  k_dflt cell_enter
  k_steps
  all_goals cb_end hret
end
local macro_rules | `(tactic| walk_at "MINE arith") => `(tactic| (law_clear; (try simp only [decide_eq_true_eq, decide_eq_false_iff_not, Bool.not_eq_true, beq_iff_eq, bne_iff_ne, ne_eq]); omega))
local macro_rules | `(tactic| walk_at "ite") => `(tactic| (k_here; k_openite; first | refine ite_pos (by walk_at "MINE arith") ?_ | refine ite_neg (by walk_at "MINE arith") ?_))
section
open PySem PySem.W PyProof.Rows
set_option linter.unusedVariables false



local macro_rules | `(tactic| walk_at "call ref") => `(tactic| (k_here; k_dflt (first
  | (refine' Clm.use (is_whole_c _ _ _ _ _ _ _) ?k1 ?k2 ?k3 ?k4 ?k5 ?kK ?kr ?_; walk_at "MINE use")
  | (refine' Clm.use (settled_c _ _ _ _ _ _ (by assumption) _ _ _) ?k1 ?k2 ?k3 ?k4 ?k5 ?kK ?kr ?_; walk_at "MINE use")
  | (refine' Clm.use (whole_of_c _ _ _ _ _ _ (by first | assumption | exact fits_of_pos (by assumption) (by assumption)) _ _) ?k1 ?k2 ?k3 ?k4 ?k5 ?kK ?kr ?_; walk_at "MINE use")
  | (refine' Clm.use (cut_quotient_c _ _ _ _ _ _ _ (Fits.lo (by assumption)) (Fits.hi (by assumption)) (by assumption) (by assumption) _ _) ?k1 ?k2 ?k3 ?k4 ?k5 ?kK ?kr ?_; walk_at "MINE use")
  | (refine' Clm.use (cut_rest_c _ _ _ _ _ _ _ (Fits.lo (by assumption)) (Fits.hi (by assumption)) (by assumption) (by assumption) _ _) ?k1 ?k2 ?k3 ?k4 ?k5 ?kK ?kr ?_; walk_at "MINE use")
  | (refine' Clm.use (wr_add _ _ _ _ _ _ _ (by assumption) _ _ _ _ _) ?k1 ?k2 ?k3 ?k4 ?k5 ?kK ?kr ?_; walk_at "MINE use")
  | (refine' Clm.use (wr_sub _ _ _ _ _ _ _ (by assumption) _ _ _ _ _) ?k1 ?k2 ?k3 ?k4 ?k5 ?kK ?kr ?_; walk_at "MINE use")
  | (refine' Clm.use (wr_mul _ _ _ _ _ _ _ (by assumption) (by assumption) (by assumption) (by assumption) (by assumption) _ _ _ _ _) ?k1 ?k2 ?k3 ?k4 ?k5 ?kK ?kr ?_; walk_at "MINE use"))))
theorem rk_add (w : World) (mean : ExcName → Option Value) (mg mb : Str → Option Value) (news : CbLed) (a b : Int) (hF : Fits (a + b)) (t1 t2 t3 t4 t5 : Tok) : Clm w mean mg mb 12 213 news [.str (Str.ofString "+") t1, .int a t2, .int b t3, .int 32 t4, .int 9 t5] (fun t => .int (a + b) t) := by
  walk_at "MINE open"
  intros; rename_i hret
  refine wpAny_call ?_
  k_dflt cell_enter
  k_steps
  all_goals cb_end hret
theorem rk_sub (w : World) (mean : ExcName → Option Value) (mg mb : Str → Option Value) (news : CbLed) (a b : Int) (hF : Fits (a - b)) (t1 t2 t3 t4 t5 : Tok) : Clm w mean mg mb 12 213 news [.str (Str.ofString "-") t1, .int a t2, .int b t3, .int 32 t4, .int 9 t5] (fun t => .int (a - b) t) := by
  walk_at "MINE open"
  intros; rename_i hret
  refine wpAny_call ?_
  k_dflt cell_enter
  k_steps
  all_goals cb_end hret
theorem rk_mul (w : World) (mean : ExcName → Option Value) (mg mb : Str → Option Value) (news : CbLed) (a b : Int) (ha : -1000000 ≤ a) (ha' : a < 1000000) (hb : -1000000 ≤ b) (hb' : b < 1000000) (hF : Fits (a * b)) (t1 t2 t3 t4 t5 : Tok) : Clm w mean mg mb 12 213 news [.str (Str.ofString "*") t1, .int a t2, .int b t3, .int 32 t4, .int 9 t5] (fun t => .int (a * b) t) := by
  walk_at "MINE open"
  intros; rename_i hret
  refine wpAny_call ?_
  k_dflt cell_enter
  k_steps
  all_goals cb_end hret
theorem rk_mod (w : World) (mean : ExcName → Option Value) (mg mb : Str → Option Value) (news : CbLed) (a b : Int) (ha : Fits a) (hb : 0 < b) (hb2 : b < 1000000) (hF : Fits (Int.tmod a b)) (t1 t2 t3 t4 t5 : Tok) : Clm w mean mg mb 12 213 news [.str (Str.ofString "MOD") t1, .int a t2, .int b t3, .int 32 t4, .int 9 t5] (fun t => .int (Int.tmod a b) t) := by
  walk_at "MINE open"
  intros; rename_i hret
  refine wpAny_call ?_
  k_dflt cell_enter
  k_steps
  all_goals cb_end hret
theorem rk_div (w : World) (mean : ExcName → Option Value) (mg mb : Str → Option Value) (news : CbLed) (a b : Int) (ha : Fits a) (hb : 0 < b) (hb2 : b < 1000000) (hF : Fits (Int.tdiv a b)) (t1 t2 t3 t4 t5 : Tok) : Clm w mean mg mb 12 213 news [.str (Str.ofString "\\") t1, .int a t2, .int b t3, .int 32 t4, .int 9 t5] (fun t => .int (Int.tdiv a b) t) := by
  walk_at "MINE open"
  intros; rename_i hret
  refine wpAny_call ?_
  k_dflt cell_enter
  k_steps
  all_goals cb_end hret
local macro_rules | `(tactic| walk_at "call ref") => `(tactic| (k_here; k_dflt (first
  | (refine' Clm.use (rk_add _ _ _ _ _ _ _ (by assumption) _ _ _ _ _) ?k1 ?k2 ?k3 ?k4 ?k5 ?kK ?kr ?_; walk_at "MINE use")
  | (refine' Clm.use (rk_sub _ _ _ _ _ _ _ (by assumption) _ _ _ _ _) ?k1 ?k2 ?k3 ?k4 ?k5 ?kK ?kr ?_; walk_at "MINE use")
  | (refine' Clm.use (rk_mul _ _ _ _ _ _ _ (by assumption) (by assumption) (by assumption) (by assumption) (by assumption) _ _ _ _ _) ?k1 ?k2 ?k3 ?k4 ?k5 ?kK ?kr ?_; walk_at "MINE use")
  | (refine' Clm.use (rk_mod _ _ _ _ _ _ _ (by assumption) (by assumption) (by assumption) (by assumption) _ _ _ _ _) ?k1 ?k2 ?k3 ?k4 ?k5 ?kK ?kr ?_; walk_at "MINE use")
  | (refine' Clm.use (rk_div _ _ _ _ _ _ _ (by assumption) (by assumption) (by assumption) (by assumption) _ _ _ _ _) ?k1 ?k2 ?k3 ?k4 ?k5 ?kK ?kr ?_; walk_at "MINE use"))))
theorem two_add (w : World) (mean : ExcName → Option Value) (mg mb : Str → Option Value) (news : CbLed) (a b : Int) (hF : Fits (a + b)) (t1 t2 t3 : Tok) : Clm w mean mg mb 14 227 news [.int a t1, .str (Str.ofString "+") t2, .int b t3] (fun t => .int (a + b) t) := by
  walk_at "MINE open"
  intros; rename_i hret
  refine wpAny_call ?_
  k_dflt cell_enter
  k_steps
  all_goals cb_end hret
theorem two_sub (w : World) (mean : ExcName → Option Value) (mg mb : Str → Option Value) (news : CbLed) (a b : Int) (hF : Fits (a - b)) (t1 t2 t3 : Tok) : Clm w mean mg mb 14 227 news [.int a t1, .str (Str.ofString "-") t2, .int b t3] (fun t => .int (a - b) t) := by
  walk_at "MINE open"
  intros; rename_i hret
  refine wpAny_call ?_
  k_dflt cell_enter
  k_steps
  all_goals cb_end hret
theorem two_mul (w : World) (mean : ExcName → Option Value) (mg mb : Str → Option Value) (news : CbLed) (a b : Int) (ha : -1000000 ≤ a) (ha' : a < 1000000) (hb : -1000000 ≤ b) (hb' : b < 1000000) (hF : Fits (a * b)) (t1 t2 t3 : Tok) : Clm w mean mg mb 14 227 news [.int a t1, .str (Str.ofString "*") t2, .int b t3] (fun t => .int (a * b) t) := by
  walk_at "MINE open"
  intros; rename_i hret
  refine wpAny_call ?_
  k_dflt cell_enter
  k_steps
  all_goals cb_end hret
theorem two_mod (w : World) (mean : ExcName → Option Value) (mg mb : Str → Option Value) (news : CbLed) (a b : Int) (ha : Fits a) (hb : 0 < b) (hb2 : b < 1000000) (hF : Fits (Int.tmod a b)) (t1 t2 t3 : Tok) : Clm w mean mg mb 14 227 news [.int a t1, .str (Str.ofString "MOD") t2, .int b t3] (fun t => .int (Int.tmod a b) t) := by
  walk_at "MINE open"
  intros; rename_i hret
  refine wpAny_call ?_
  k_dflt cell_enter
  k_steps
  all_goals cb_end hret
theorem two_div (w : World) (mean : ExcName → Option Value) (mg mb : Str → Option Value) (news : CbLed) (a b : Int) (ha : Fits a) (hb : 0 < b) (hb2 : b < 1000000) (hF : Fits (Int.tdiv a b)) (t1 t2 t3 : Tok) : Clm w mean mg mb 14 227 news [.int a t1, .str (Str.ofString "\\") t2, .int b t3] (fun t => .int (Int.tdiv a b) t) := by
  walk_at "MINE open"
  intros; rename_i hret
  refine wpAny_call ?_
  k_dflt cell_enter
  k_steps
  all_goals cb_end hret
end
local macro_rules | `(tactic| walk_at "MINE fact") => `(tactic| first | assumption | (law_clear; omega))
section
open PySem PySem.W PyProof.Rows
set_option linter.unusedVariables false


local macro_rules | `(tactic| walk_at "call ref") => `(tactic| (k_here; k_dflt (first
  | (refine' Clm.use (two_add _ _ _ _ _ _ _ (by walk_at "MINE fact") _ _ _) ?k1 ?k2 ?k3 ?k4 ?k5 ?kK ?kr ?_; walk_at "MINE use")
  | (refine' Clm.use (two_sub _ _ _ _ _ _ _ (by walk_at "MINE fact") _ _ _) ?k1 ?k2 ?k3 ?k4 ?k5 ?kK ?kr ?_; walk_at "MINE use")
  | (refine' Clm.use (two_mul _ _ _ _ _ _ _ (by walk_at "MINE fact") (by walk_at "MINE fact") (by walk_at "MINE fact") (by walk_at "MINE fact") (by walk_at "MINE fact") _ _ _) ?k1 ?k2 ?k3 ?k4 ?k5 ?kK ?kr ?_; walk_at "MINE use")
  | (refine' Clm.use (two_mod _ _ _ _ _ _ _ (by walk_at "MINE fact") (by walk_at "MINE fact") (by walk_at "MINE fact") (by walk_at "MINE fact") _ _ _) ?k1 ?k2 ?k3 ?k4 ?k5 ?kK ?kr ?_; walk_at "MINE use")
  | (refine' Clm.use (two_div _ _ _ _ _ _ _ (by walk_at "MINE fact") (by walk_at "MINE fact") (by walk_at "MINE fact") (by walk_at "MINE fact") _ _ _) ?k1 ?k2 ?k3 ?k4 ?k5 ?kK ?kr ?_; walk_at "MINE use"))))

theorem rest_eq {a m : Int} (h : 0 < m) : Int.tmod (Int.tmod a m + m) m = a % m := by
  have h1 := Int.tmod_lt_of_pos a h
  have h2 : -m < Int.tmod a m := by
    have := Int.tmod_lt_of_pos (-a) h
    rw [Int.neg_tmod] at this; omega
  rw [Int.tmod_eq_emod_of_nonneg (by omega), Int.add_emod_right]
  have := Int.tmod_def a m
  have h3 : Int.tmod a m = a - m * a.tdiv m := this
  rw [h3, Int.sub_emod, Int.mul_emod_right]; simp
theorem tmod_fits {a m : Int} (h : 0 < m) (h2 : m < 1000000) : Fits (Int.tmod a m) := by
  have h1 := Int.tmod_lt_of_pos a h
  have h2 : -m < Int.tmod a m := by
    have := Int.tmod_lt_of_pos (-a) h
    rw [Int.neg_tmod] at this; omega
  exact ⟨by omega, by omega⟩
theorem tmod_fits2 {a m : Int} (h : 0 < m) (h2 : m < 1000000) : Fits (Int.tmod a m + m) := by
  have h1 := Int.tmod_lt_of_pos a h
  have h2 : -m < Int.tmod a m := by
    have := Int.tmod_lt_of_pos (-a) h
    rw [Int.neg_tmod] at this; omega
  exact ⟨by omega, by omega⟩
local macro_rules | `(tactic| walk_at "MINE fact") => `(tactic| first | exact tmod_fits (by assumption) (by assumption) | exact tmod_fits2 (by assumption) (by assumption))
local macro_rules | `(tactic| cb_eq) => `(tactic| exact rest_eq (by assumption))
theorem rest_c (w : World) (mean : ExcName → Option Value) (mg mb : Str → Option Value) (news : CbLed) (a b : Int) (ha : Fits a) (hb : 0 < b) (hb2 : b < 1000000) (t1 t2 : Tok) : Clm w mean mg mb 18 234 news [.int a t1, .int b t2] (fun t => .int (a % b) t) := by
  walk_at "MINE open"
  intros; rename_i hret
  refine wpAny_call ?_
  k_dflt cell_enter
  k_steps
  all_goals cb_end hret
end
local macro_rules | `(tactic| walk_at "MINE go") => `(tactic| repeat' ((fail_if_success (with_reducible show wpAny _ _ (call (Value.type "zip") _) _ _ _)); (fail_if_success (with_reducible show wpAny _ _ (pyIter _) _ _ _)); first | (k_unfold; (try dsimp only)) | walk1 | (dsimp only; walk1) | fail "no step"))
local macro_rules | `(tactic| walk_at "exec Assign cons ListComp") => `(tactic| (k_here; k_dflt (refine assign_comp (by k_asm) (by rfl) (by with_unfolding_all rfl) (by with_unfolding_all rfl) (by decide) (by rfl) (by decide) (by rfl) (by rfl) ?_)))
local macro_rules | `(tactic| walk_at "MINE sub") => `(tactic| (intro p hp; repeat' (first | exact hp | exact List.mem_append_right _ hp | refine List.mem_cons_of_mem _ ?_)))
local macro_rules | `(tactic| walk_at "MINE elt") => `(tactic| (
  (rename News _ _ _ _ => N10); (rename Fr _ _ _ _ => F10); refine' elt_end (by assumption) (by assumption) ?em (by k_asm) F10 N10 ?es ?eo ?en; (case em => k_mem); (case es => walk_at "MINE sub"); (case eo => exact ⟨_, rfl⟩); (case en => (intro _ e; cases e))))
section
local macro_rules | `(tactic| walk_at "call ref") => `(tactic| (k_here; k_dflt (first
  | (refine' Clm.use (two_add _ _ _ _ _ _ _ (by walk_at "MINE fact") _ _ _) ?k1 ?k2 ?k3 ?k4 ?k5 ?kK ?kr ?_; walk_at "MINE use")
  | (refine' Clm.use (two_sub _ _ _ _ _ _ _ (by walk_at "MINE fact") _ _ _) ?k1 ?k2 ?k3 ?k4 ?k5 ?kK ?kr ?_; walk_at "MINE use")
  | (refine' Clm.use (two_mul _ _ _ _ _ _ _ (by walk_at "MINE fact") (by walk_at "MINE fact") (by walk_at "MINE fact") (by walk_at "MINE fact") (by walk_at "MINE fact") _ _ _) ?k1 ?k2 ?k3 ?k4 ?k5 ?kK ?kr ?_; walk_at "MINE use")
  | (refine' Clm.use (two_mod _ _ _ _ _ _ _ (by walk_at "MINE fact") (by walk_at "MINE fact") (by walk_at "MINE fact") (by walk_at "MINE fact") _ _ _) ?k1 ?k2 ?k3 ?k4 ?k5 ?kK ?kr ?_; walk_at "MINE use")
  | (refine' Clm.use (two_div _ _ _ _ _ _ _ (by walk_at "MINE fact") (by walk_at "MINE fact") (by walk_at "MINE fact") (by walk_at "MINE fact") _ _ _) ?k1 ?k2 ?k3 ?k4 ?k5 ?kK ?kr ?_; walk_at "MINE use")
  | (refine' Clm.use (rest_c _ _ _ _ _ _ _ (by walk_at "MINE fact") (by walk_at "MINE fact") (by walk_at "MINE fact") _ _) ?k1 ?k2 ?k3 ?k4 ?k5 ?kK ?kr ?_; walk_at "MINE use"))))
section
open PySem PySem.W PyProof.Rows
open PyProof.Rows.LCg (lst NsObj)
set_option linter.unusedVariables false



abbrev IvC (a b c x y z n m : Int) : Prop :=
  (0 < x ∧ x < 1000000) ∧ (-2147483648 ≤ a ∧ a < 2147483648) ∧ (-1000000 ≤ Int.tdiv a x ∧ Int.tdiv a x < 1000000) ∧ (-1000000 ≤ y ∧ y < 1000000) ∧ (-1000000 ≤ z ∧ z < 1000000) ∧
  (-2147483648 ≤ Int.tdiv a x * x ∧ Int.tdiv a x * x < 2147483648) ∧ (-2147483648 ≤ Int.tdiv a x * y ∧ Int.tdiv a x * y < 2147483648) ∧ (-2147483648 ≤ Int.tdiv a x * z ∧ Int.tdiv a x * z < 2147483648) ∧
  (-1000000 ≤ b - Int.tdiv a x * y ∧ b - Int.tdiv a x * y < 1000000) ∧ (-1000000 ≤ c - Int.tdiv a x * z ∧ c - Int.tdiv a x * z < 1000000) ∧
  a - Int.tdiv a x * x = Int.tmod a x ∧ (0 ≤ a - Int.tdiv a x * x ∧ a - Int.tdiv a x * x < x) ∧
  a - Int.tdiv a x * x = (b - Int.tdiv a x * y) * n + (c - Int.tdiv a x * z) * m ∧
  (y * (c - Int.tdiv a x * z) - (b - Int.tdiv a x * y) * z = 1 ∨ y * (c - Int.tdiv a x * z) - (b - Int.tdiv a x * y) * z = -1)
noncomputable def ivRun : Nat → Int → Int → Int → Int → Int → Int → Int → Int → Option Int
  | 0, _, _, _, _, _, _, _, _ => none
  | k + 1, a, b, c, x, y, z, n, m =>
    if x = 0 then (if a = 1 ∧ -2147483648 ≤ b ∧ b < 2147483648 then some (b % m) else none)
    else if IvC a b c x y z n m then ivRun k x y z (a - Int.tdiv a x * x) (b - Int.tdiv a x * y) (c - Int.tdiv a x * z) n m else none
theorem iv_split {k : Nat} {a b c x y z n m r : Int} {p q : Prop} (h : ivRun k a b c x y z n m = some r)
    (h1 : x = 0 → a = 1 → Fits b → r = b % m → p)
    (h2 : ∀ k', k = k' + 1 → IvC a b c x y z n m → ivRun k' x y z (a - Int.tdiv a x * x) (b - Int.tdiv a x * y) (c - Int.tdiv a x * z) n m = some r → q) :
    if decide (x = 0) = true then p else q := by
  cases k with
  | zero => simp [ivRun] at h
  | succ k =>
    unfold ivRun at h
    by_cases hx : x = 0
    · rw [if_pos (by simpa using hx)]
      rw [if_pos hx] at h
      by_cases ha : a = 1 ∧ -2147483648 ≤ b ∧ b < 2147483648
      · rw [if_pos ha] at h
        exact h1 hx ha.1 ⟨ha.2.1, ha.2.2⟩ (Option.some.inj h).symm
      · rw [if_neg ha] at h; cases h
    · rw [if_neg (by simpa using hx)]
      rw [if_neg hx] at h
      by_cases hc : IvC a b c x y z n m
      · rw [if_pos hc] at h
        exact h2 k rfl hc h
      · rw [if_neg hc] at h; cases h
theorem fits_small {x : Int} (h : -1000000 ≤ x) (h2 : x < 1000000) : Fits x := ⟨by omega, by omega⟩
theorem fits_pos2 {a q x : Int} (h : 0 ≤ a - q) (h2 : a - q < x) (h3 : x < 1000000) : Fits (a - q) := ⟨by omega, by omega⟩
local macro_rules | `(tactic| walk_at "MINE fact") => `(tactic| first | exact ⟨by assumption, by assumption⟩ | exact fits_small (by assumption) (by assumption) | exact tmod_fits (by assumption) (by assumption) | exact fits_pos2 (by assumption) (by assumption) (by assumption))
theorem iv_split' {k : Nat} {a b c x y z n m r : Int} {p q : Prop} (h : ivRun k a b c x y z n m = some r)
    (h1 : x = 0 → a = 1 → Fits b → r = b % m → p)
    (h2 : ∀ k', k = k' + 1 → 0 < x → x < 1000000 → -2147483648 ≤ a → a < 2147483648 → -1000000 ≤ Int.tdiv a x → Int.tdiv a x < 1000000 → -1000000 ≤ y → y < 1000000 → -1000000 ≤ z → z < 1000000 → -2147483648 ≤ Int.tdiv a x * x → Int.tdiv a x * x < 2147483648 → -2147483648 ≤ Int.tdiv a x * y → Int.tdiv a x * y < 2147483648 → -2147483648 ≤ Int.tdiv a x * z → Int.tdiv a x * z < 2147483648 → -1000000 ≤ b - Int.tdiv a x * y → b - Int.tdiv a x * y < 1000000 → -1000000 ≤ c - Int.tdiv a x * z → c - Int.tdiv a x * z < 1000000 → a - Int.tdiv a x * x = Int.tmod a x → 0 ≤ a - Int.tdiv a x * x → a - Int.tdiv a x * x < x → a - Int.tdiv a x * x = (b - Int.tdiv a x * y) * n + (c - Int.tdiv a x * z) * m → (y * (c - Int.tdiv a x * z) - (b - Int.tdiv a x * y) * z = 1 ∨ y * (c - Int.tdiv a x * z) - (b - Int.tdiv a x * y) * z = -1) → ivRun k' x y z (a - Int.tdiv a x * x) (b - Int.tdiv a x * y) (c - Int.tdiv a x * z) n m = some r → q) :
    if (x == 0) = true then p else q := by
  have := iv_split h h1 (q := q) (fun k' hk ⟨⟨c1, c2⟩, ⟨c3, c4⟩, ⟨c5, c6⟩, ⟨c7, c8⟩, ⟨c9, c10⟩, ⟨c11, c12⟩, ⟨c13, c14⟩, ⟨c15, c16⟩, ⟨c17, c18⟩, ⟨c19, c20⟩, c21, ⟨c22, c23⟩, c24, c25⟩ hr => h2 k' hk c1 c2 c3 c4 c5 c6 c7 c8 c9 c10 c11 c12 c13 c14 c15 c16 c17 c18 c19 c20 c21 c22 c23 c24 c25 hr)
  simpa using this
local macro_rules | `(tactic| walk_at "ite") => `(tactic| (k_here; k_dflt (refine iv_split' (by assumption) (fun hx0 ha1 hfb hrr => ?_) (fun k' hk' c1 c2 c3 c4 c5 c6 c7 c8 c9 c10 c11 c12 c13 c14 c15 c16 c17 c18 c19 c20 c21 c22 c23 c24 c25 hrun' => ?_))))
local macro_rules | `(tactic| k_all) => `(tactic| assumption)



theorem my_item {prog : Program} {w : World} {A : Around} {E : Value → Shared → Prop} {s : Shared} {h₀ : Heap} {L : Addr} {value slice : PySem.Expr} {l : Addr} {news : List (Addr × Obj)} {vs : List Value} {c : Nat} {k : Int} {u : Tok} {v : Value} {Q : Value → Shared → Prop}
    (N : News h₀ L s.heap news) (hm : (l, ({ cls := .type "list", data := .seq vs.toArray c } : Obj)) ∈ news) (h0 : 0 ≤ k) (hhi : k < 2 ^ 63) (hx : vs[k.toNat]? = some v) (h : Q v s)
    (hs : subscripted slice false (.ref l) (.int k u) = operate [.ref l, .int k u] (getItem (.ref l) (.int k u))) :
    wpAny (model prog w) A (subscriptTail value slice (.ref l) (.int k u)) Q E s :=
  have hl : s.heap.IsList l vs.toArray := ⟨_, (N _ hm).1, rfl, _, rfl⟩
  tail_any hl.typeIs slot_list_getitem.lookup (wpAny_getItem_list hl h0 hhi (by simpa using hx) h) hs
local macro_rules | `(tactic| walk_at "subscriptTail Name Constant ref int") => `(tactic| (k_here; k_dflt (refine' my_item ?k1 ?k2 ?k3 ?k4 ?k5 ?_ ?k6; (case k1 => k_asm); (case k2 => k_mem); (case k3 => decide); (case k4 => decide); (case k5 => exact rfl); (case k6 => with_unfolding_all rfl))))
theorem src_tup {h₀ h : Heap} {L a : Addr} {news : List (Addr × Obj)} {xs : Array Value} {k : Nat} (N : News h₀ L h news) (hm : (a, ({ cls := .type "tuple", data := .seq xs k } : Obj)) ∈ news) : SrcOk a xs true h := .inl ⟨rfl, _, (N _ hm).1, rfl, _, rfl⟩
theorem src_list {h₀ h : Heap} {L a : Addr} {news : List (Addr × Obj)} {xs : Array Value} {k : Nat} (N : News h₀ L h news) (hm : (a, ({ cls := .type "list", data := .seq xs k } : Obj)) ∈ news) : SrcOk a xs false h := .inr ⟨rfl, _, (N _ hm).1, rfl, _, rfl⟩
theorem src_ne {h₀ h : Heap} {L a : Addr} {news : List (Addr × Obj)} {o : Obj} (N : News h₀ L h news) (hm : (a, o) ∈ news) : a ≠ L := (N _ hm).2.1
theorem pair3 {R : Nat → Value → Value → Prop} {p0 p1 p2 q0 q1 q2 : Value} (w0 : R 0 p0 q0) (w1 : R 1 p1 q1) (w2 : R 2 p2 q2) : ∀ i x1 x2, i < 3 → (#[p0, p1, p2] : Array Value)[i]? = some x1 → (#[q0, q1, q2] : Array Value)[i]? = some x2 → R i x1 x2 := by
  intro i x1 x2 hi g1 g2
  match i, hi with
  | 0, _ => cases (show some p0 = some x1 from g1); cases (show some q0 = some x2 from g2); exact w0
  | 1, _ => cases (show some p1 = some x1 from g1); cases (show some q1 = some x2 from g2); exact w1
  | 2, _ => cases (show some p2 = some x1 from g1); cases (show some q2 = some x2 from g2); exact w2
abbrev tup3 (a b c : Int) (t1 t2 t3 : Tok) (k : Nat) : Obj := { cls := .type "tuple", data := .seq #[.int a t1, .int b t2, .int c t3] k }
theorem look_use {K : Frag} {a : Addr} {o o' : Obj} {P : Prop} (h : K.lookup a = some o) (h' : K.lookup a = some o') (k : o = o' → P) : P := k (Option.some.inj (h.symm.trans h'))
theorem inv_turn (w : World) (mean : ExcName → Option Value) (mg mb : Str → Option Value) {dp un : Nat} {gd : Option (List Code)} {cn : Str} {cs : Scope} {L a₁ : Addr} {ccd : Value} {cl : List (Str × Addr)} {outer : List Env} {A₀ : Around} {base g h : Heap} {L' aR aF aL : Addr}
    {oc cdv dV kV doc pm ct : Value} {od an : Option Addr} {osl : Array (Option Value)} {name qual : Str} {params : Arguments} {st1 st2 : Stmt} {tg it : PySem.Expr} {body oe : List Stmt} {ps : Pos} {scope : Scope}
    {n m r a b c x y z i : Int} {t1 t2 ti ta tb tc tx ty tz : Tok} {k k0 k1 k2 tk : Nat} {u : Str → Option Value} {own : CbLed} {o : Obj} {cv : Option Value} {gens : Array GenState} {drawn : Drawn} {os : OsState} {Qr : Value → Shared → Prop} {Qn : Shared → Prop} {E : Value → Shared → Prop}
    (hK : (Mine.k0.heap_1 w.params).lookup 239 = some ⟨oc, od, .func (fnOf name qual params [st1, .For (target := tg) (iter := it) (body := body) (orelse := oe) (pos := ps), st2] scope dV kV doc pm an cdv ct), osl⟩)
    (B : Below A₀ base (envX cn cs L a₁ ccd cl :: outer) g) (X : (Mine.k0.heap_1 w.params).In g) (T : Top Mine.view loose0 mean mg mb g) (room : Room dp un 26)
    (F : Fr g L' h (fun v => if v = Str.ofString "turn" then some (.int i ti) else if v = Str.ofString "rows" then some (.ref aR) else if v = Str.ofString "modulus" then some (.int m t2) else if v = Str.ofString "number" then some (.int n t1) else u v))
    (N : News g L' h ((L' + 1, o) :: (aR, listOf #[.ref aF, .ref aL] k0) :: (aF, tup3 a b c ta tb tc k1) :: (aL, tup3 x y z tx ty tz k2) :: own))
    (ho : o.data = .cell cv) (n1 : aR ≠ L' + 1) (n2 : aF ≠ L' + 1) (n3 : aL ≠ L' + 1) (n4 : ∀ p ∈ own, p.1 ≠ L' + 1)
    (hrun : ivRun k a b c x y z n m = some r) (hn : Fits n) (hm : 0 < m) (hm2 : m < 1000000) 
    (hret : ∀ v t h' tk' m' l, r = v → Fr g L' h' m' → News g L' h' l → (∀ p ∈ own, p ∈ l) → Qr (.int v t) { heap := h', gens := gens, drawn := drawn, toks := tk', os := os })
    (hnext : ∀ k' h' tk' m' l o' cv' aR' aN s1 s2 s3 kN kR, k = k' + 1 → ivRun k' x y z (a - Int.tdiv a x * x) (b - Int.tdiv a x * y) (c - Int.tdiv a x * z) n m = some r → Fr g L' h' m' → m' (Str.ofString "rows") = some (.ref aR') → m' (Str.ofString "modulus") = some (.int m t2) → m' (Str.ofString "number") = some (.int n t1) →
      News g L' h' l → (L' + 1, o') ∈ l → o'.data = .cell cv' → (aR', listOf #[.ref aL, .ref aN] kR) ∈ l → (aL, tup3 x y z tx ty tz k2) ∈ l → (aN, tup3 (a - Int.tdiv a x * x) (b - Int.tdiv a x * y) (c - Int.tdiv a x * z) s1 s2 s3 kN) ∈ l → (∀ p ∈ own, p ∈ l) → (∀ p ∈ own, p.1 ≠ aR') → (∀ p ∈ own, p.1 ≠ aN) → Qn { heap := h', gens := gens, drawn := drawn, toks := tk', os := os }) :
    wpAny (model PySem.Challenge.rw_xm0033_01.row.prog w) ((ktrTop dp un gd cn cs L a₁ ccd cl outer).deeper (envOfC qual scope L' 239 cdv)) (execs body (envOfC qual scope L' 239 cdv))
      (fun f s₂ => match f with | .ret v => Qr v s₂ | .next => Qn s₂ | _ => False) E { heap := h, gens := gens, drawn := drawn, toks := tk, os := os } := by
  have kf : (Mine.k0.heap_1 w.params).In g ∧ PySem.Challenge.rw_xm0033_01.Holds → True := by
    k_fill
    exact fun _ => trivial
  clear kf
  refine' look_use hK ?e9 ?_
  case e9 => k_dflt k_is
  intro h2
  dsimp only [fnOf] at h2
  injection h2 with e1 e2 e3 e4
  injection e3 with e3
  injection e3 with f1 f2 f3 f4 f5 f6 f7 f8 f9 f10 f11 f12 f13 f14 f15
  injection f4 with f4
  injection f4 with g1 g2
  injection g2 with g2 g3
  injection g2 with g4 g5 g6 g7 g8
  clear g1 g3 g4 g5 g7 g8
  subst f2 g6 f5
  clear hK e1 e2 e4 f1 f3 f6 f7 f8 f9 f10 f11 f12

  walk_at "MINE go"
  exact hret _ _ _ _ _ _ (by assumption) (by k_asm) (by k_asm) (by walk_at "MINE sub")
  rename News _ _ _ _ => N8
  refine ready_zip2 (by rfl) (by k_asm) (xs1 := #[.int a ta, .int b tb, .int c tc]) (xs2 := #[.int x tx, .int y ty, .int z tz]) (b1 := true) (b2 := true) (n := 3) (src_tup N8 (by k_mem)) (src_tup N8 (by k_mem)) (src_ne N8 (by k_mem)) (src_ne N8 (by k_mem)) rfl rfl (by decide)
    (obsI [a - Int.tdiv a x * x, b - Int.tdiv a x * y, c - Int.tdiv a x * z]) (obsI_ok _) (turn_pair (by rfl) (by rfl) (by rfl) (by rfl) (by decide) N8 (pair3 ?w0 ?w1 ?w2)) (fin_int3 N8 ?_)
  case w0 =>
    intro C oC m₂ h9 tk9 all E9 hoC hb hlt F9 N9 hA
    obtain ⟨hb1, hb2⟩ := hb
    simp only [List.cons_append, List.nil_append] at N9
    walk_at "MINE go"
    walk_at "MINE elt"
  case w1 =>
    intro C oC m₂ h9 tk9 all E9 hoC hb hlt F9 N9 hA
    obtain ⟨hb1, hb2⟩ := hb
    simp only [List.cons_append, List.nil_append] at N9
    walk_at "MINE go"
    walk_at "MINE elt"
  case w2 =>
    intro C oC m₂ h9 tk9 all E9 hoC hb hlt F9 N9 hA
    obtain ⟨hb1, hb2⟩ := hb
    simp only [List.cons_append, List.nil_append] at N9
    walk_at "MINE go"
    walk_at "MINE elt"
  intro D h9 tk9 t0 t1 t2 F9 N9 hlt9
  clear N8
  walk_at "MINE go"
  dsimp only
  rename News _ _ _ _ => N11
  rename Fr _ _ _ _ => F11
  refine' hnext _ _ _ _ _ _ _ _ _ _ _ _ _ _ ?q1 ?q2 F11 ?q3 ?q4 ?q5 N11 ?q6 ?q7 ?q8 ?q9 ?q10 ?q11 ?q12 ?q13
  case q1 => assumption
  case q2 => assumption
  case q3 => exact rfl
  case q4 => exact rfl
  case q5 => exact rfl
  case q6 => k_mem
  case q7 => assumption
  case q8 => k_mem
  case q9 => k_mem
  case q10 => k_mem
  case q11 => walk_at "MINE sub"
  case q12 => (intro p hp; kd_belowNe)
  case q13 => (intro p hp; kd_belowNe)
end
section
open PySem PySem.W PyProof.Rows
open PyProof.Rows.LCg (lst NsObj)
set_option linter.unusedVariables false

theorem range_loop {prog : Program} {w : World} {A : Around} {E : Value → Shared → Prop} {s : Shared} {env : Env} {h₀ : Heap} {x : Str} {body : List Stmt} {Q : Flow → Shared → Prop} {rr : Addr} {t u v : Tok} {nn : Nat} {m₀ : Str → Option Value} {news : List (Addr × Obj)}
    (J : Nat → (Str → Option Value) → List (Addr × Obj) → Prop) (hh : A.handled = none) (hr : IsRange s.heap rr 0 nn 1 t u v) (hsmall : Builtin.Range.small 0 nn 1 = true) (hsz : Builtin.Range.rangeSize 0 nn 1 = (nn : Int)) (F : Fr h₀ env.locals s.heap m₀) (N : News h₀ env.locals s.heap news) (hj : J 0 m₀ news)
    (turn : ∀ i k t m₁ nx h tk own, i < nn → OwnOff own (nx.map (·.1)) → J i m₁ nx → Fr h₀ env.locals h (fun y => if y = x then some (.int k t) else m₁ y) → News h₀ env.locals h (nx ++ own) →
      wpAny (model prog w) A (execs body env) (InvPostG h₀ env.locals (J (i + 1)) own { s with heap := h, toks := tk } Q) E { s with heap := h, toks := tk })
    (done : ∀ m₁ nx h tk, J nn m₁ nx → Fr h₀ env.locals h m₁ → News h₀ env.locals h nx → Q .next { s with heap := h, toks := tk }) :
    wpAny (model prog w) A (pyIter (.ref rr)) (fun it s₂ => LoopAtV prog w A h₀ env x body Q E it s₂) E s := by
  refine wpAny_pyIter_range hr hsmall ?_
  have W : Walks prog w A s.heap.objs.size [s.heap.objs.size] [s.heap.objs.size] nn (fun i v => i < nn ∧ ∃ t, v = .int (0 + i * 1) t)
      (fun i h => IsRangeIter h s.heap.objs.size (0 + (i : Nat) * 1) ((nn : Int) - (i : Nat)) 1) := (Walks.range hh _ 0 1 nn).bound
  refine kdr_loop J W (fun _ h => h) (fun _ h => h) ?_ ?_ ?_ ?_ (by show IsRangeIter _ _ _ _ _; rw [hsz]; simpa using Heap.get?_push_size _ rfl) (F.push _) (fun p hp => ⟨Heap.get?_push_of_some _ (N p hp).1, (N p hp).2⟩) hj ?_ (fun m₁ nx h tk a b c => done m₁ nx h tk a b c)
  · intro i h hi b hb
    rw [List.mem_singleton.mp hb]
    exact ⟨_, hi⟩
  · intro hm
    exact absurd F.ns.lt ((List.mem_singleton.mp hm) ▸ Nat.lt_irrefl _)
  · intro b hb
    rw [List.mem_singleton.mp hb]
    exact next_is_new F
  · intro p hp hI
    exact absurd (Heap.lt_size (N p hp).1) ((List.mem_singleton.mp hI) ▸ Nat.lt_irrefl _)
  · rintro i v m₁ nx h tk own hi ⟨_, t, rfl⟩ hoff hJ F₁ N₁
    exact turn i _ t m₁ nx h tk own hi hoff hJ F₁ N₁
theorem post_mono {M : Model} {A : Around} {E : Value → Shared → Prop} {s : Shared} {t : Sem Flow} {P : Flow → Shared → Prop} (h : wpAny M A t (fun f s₂ => match f with | .ret v => P (.ret v) s₂ | .next => P .next s₂ | _ => False) E s) : wpAny M A t P E s :=
  wpAny_mono h (fun f s₂ hf => by cases f <;> first | exact hf | exact hf.elim) fun _ _ e => e
theorem fr_map {h₀ h : Heap} {L : Addr} {m m' : Str → Option Value} (F : Fr h₀ L h m) (e : ∀ y, m y = m' y) : Fr h₀ L h m' := (funext e : m = m') ▸ F
theorem cell_apart {h₀ h : Heap} {L a c : Addr} {l : List (Addr × Obj)} {o oc : Obj} {cv : Option Value} {xs : Array Value} {k : Nat} (N : News h₀ L h l) (hc : (c, oc) ∈ l) (ho : oc.data = .cell cv) (ha : (a, o) ∈ l) (hd : o.data = .seq xs k) : a ≠ c := by
  intro e
  have h1 := (N _ hc).1
  have h2 := (N _ ha).1
  dsimp only at h1 h2
  rw [e, h1] at h2
  cases h2
  rw [ho] at hd; cases hd
theorem inv_loop (w : World) (mean : ExcName → Option Value) (mg mb : Str → Option Value) {dp un : Nat} {gd : Option (List Code)} {cn : Str} {cs : Scope} {L a₁ : Addr} {ccd : Value} {cl : List (Str × Addr)} {outer : List Env} {A₀ : Around} {base g h : Heap} {L' aR aF aL : Addr}
    {oc cdv dV kV doc pm ct : Value} {od an : Option Addr} {osl : Array (Option Value)} {name qual : Str} {params : Arguments} {st1 st2 : Stmt} {tg it : PySem.Expr} {body oe : List Stmt} {ps : Pos} {scope : Scope}
    {n m r : Int} {t1 t2 ta tb tc tx ty tz tt uu vv : Tok} {k0 k1 k2 tk : Nat} {m₀ : Str → Option Value} {news : CbLed} {rr : Addr} {o : Obj} {cv : Option Value} {gens : Array GenState} {drawn : Drawn} {os : OsState} {Q : Flow → Shared → Prop} {E : Value → Shared → Prop}
    (hK : (Mine.k0.heap_1 w.params).lookup 239 = some ⟨oc, od, .func (fnOf name qual params [st1, .For (target := tg) (iter := it) (body := body) (orelse := oe) (pos := ps), st2] scope dV kV doc pm an cdv ct), osl⟩)
    (B : Below A₀ base (envX cn cs L a₁ ccd cl :: outer) g) (X : (Mine.k0.heap_1 w.params).In g) (T : Top Mine.view loose0 mean mg mb g) (room : Room dp un 26)
    (F : Fr g L' h m₀) (hrows : m₀ (Str.ofString "rows") = some (.ref aR)) (hmod : m₀ (Str.ofString "modulus") = some (.int m t2)) (hnum : m₀ (Str.ofString "number") = some (.int n t1))
    (N : News g L' h ((aR, listOf #[.ref aF, .ref aL] k0) :: (aL, tup3 m 0 1 tx ty tz k2) :: (aF, tup3 n 1 0 ta tb tc k1) :: (L' + 1, o) :: news)) (ho : o.data = .cell cv) (hlt : ∀ p ∈ news, p.1 < L')
    (hrun : ivRun 12 n 1 0 m 0 1 n m = some r) (hn : Fits n) (hm : 0 < m) (hm2 : m < 1000000) (hr : IsRange h rr 0 12 1 tt uu vv)
    (hret : ∀ t h' tk' m' l, Fr g L' h' m' → News g L' h' l → (∀ p ∈ news, p ∈ l) → Q (.ret (.int r t)) { heap := h', gens := gens, drawn := drawn, toks := tk', os := os }) :
    wpAny (model PySem.Challenge.rw_xm0033_01.row.prog w) ((ktrTop dp un gd cn cs L a₁ ccd cl outer).deeper (envOfC qual scope L' 239 cdv)) (pyIter (.ref rr))
      (fun it s₂ => LoopAtV PySem.Challenge.rw_xm0033_01.row.prog w ((ktrTop dp un gd cn cs L a₁ ccd cl outer).deeper (envOfC qual scope L' 239 cdv)) g (envOfC qual scope L' 239 cdv) (Str.ofString "turn") body Q E it s₂) E { heap := h, gens := gens, drawn := drawn, toks := tk, os := os } := by
  refine range_loop (nn := 12) (news := (L' + 1, o) :: (aR, listOf #[.ref aF, .ref aL] k0) :: (aF, tup3 n 1 0 ta tb tc k1) :: (aL, tup3 m 0 1 tx ty tz k2) :: news)
    (fun i m₁ nx => ∃ (a b c x y z : Int) (ta tb tc tx ty tz : Tok) (k0 k1 k2 : Nat) (o : Obj) (cv : Option Value) (aR aF aL : Addr), nx = (L' + 1, o) :: (aR, listOf #[.ref aF, .ref aL] k0) :: (aF, tup3 a b c ta tb tc k1) :: (aL, tup3 x y z tx ty tz k2) :: news ∧ o.data = .cell cv ∧
      m₁ (Str.ofString "rows") = some (.ref aR) ∧ m₁ (Str.ofString "modulus") = some (.int m t2) ∧ m₁ (Str.ofString "number") = some (.int n t1) ∧ ivRun (12 - i) a b c x y z n m = some r) rfl hr (by decide) (by rfl) F ?_ ⟨n, 1, 0, m, 0, 1, ta, tb, tc, tx, ty, tz, k0, k1, k2, o, cv, aR, aF, aL, rfl, ho, hrows, hmod, hnum, hrun⟩ ?_ ?_
  · intro p hp
    refine N p ?_
    simp only [List.mem_cons] at hp ⊢
    rcases hp with h | h | h | h | h
    · exact .inr (.inr (.inr (.inl h)))
    · exact .inl h
    · exact .inr (.inr (.inl h))
    · exact .inr (.inl h)
    · exact .inr (.inr (.inr (.inr h)))
  · rintro i kk tki m₁ nx h1 tk1 own hi hoff ⟨a, b, c, x, y, z, ta, tb, tc, tx, ty, tz, k0, k1, k2, o, cv, aR, aF, aL, rfl, ho, hrows, hmod, hnum, hrun⟩ F1 N1
    simp only [List.cons_append] at N1
    have e1 : (L' + 1, o) ∈ (L' + 1, o) :: (aR, listOf #[.ref aF, .ref aL] k0) :: (aF, tup3 a b c ta tb tc k1) :: (aL, tup3 x y z tx ty tz k2) :: (news ++ own) := .head _
    have e2 : (aR, listOf #[.ref aF, .ref aL] k0) ∈ (L' + 1, o) :: (aR, listOf #[.ref aF, .ref aL] k0) :: (aF, tup3 a b c ta tb tc k1) :: (aL, tup3 x y z tx ty tz k2) :: (news ++ own) := .tail _ (.head _)
    have e3 : (aF, tup3 a b c ta tb tc k1) ∈ (L' + 1, o) :: (aR, listOf #[.ref aF, .ref aL] k0) :: (aF, tup3 a b c ta tb tc k1) :: (aL, tup3 x y z tx ty tz k2) :: (news ++ own) := .tail _ (.tail _ (.head _))
    have e4 : (aL, tup3 x y z tx ty tz k2) ∈ (L' + 1, o) :: (aR, listOf #[.ref aF, .ref aL] k0) :: (aF, tup3 a b c ta tb tc k1) :: (aL, tup3 x y z tx ty tz k2) :: (news ++ own) := .tail _ (.tail _ (.tail _ (.head _)))
    refine post_mono ?_
    refine inv_turn (t1 := t1) (t2 := t2) (i := kk) (ti := tki) (u := m₁) (own := news ++ own) w mean mg mb hK B X T room (fr_map F1 fun v => ?_) N1 ho (cell_apart N1 e1 ho e2 rfl) (cell_apart N1 e1 ho e3 rfl) (cell_apart N1 e1 ho e4 rfl) ?_ hrun hn hm hm2 ?_ ?_
    · by_cases v1 : v = Str.ofString "turn"
      · rw [if_pos v1, if_pos v1]
      · rw [if_neg v1, if_neg v1]
        by_cases v2 : v = Str.ofString "rows"
        · rw [if_pos v2, v2, hrows]
        · rw [if_neg v2]
          by_cases v3 : v = Str.ofString "modulus"
          · rw [if_pos v3, v3, hmod]
          · rw [if_neg v3]
            by_cases v4 : v = Str.ofString "number"
            · rw [if_pos v4, v4, hnum]
            · rw [if_neg v4]
    · intro p hp
      rcases List.mem_append.mp hp with hp | hp
      · exact Nat.ne_of_lt (Nat.lt_succ_of_lt (hlt p hp))
      · exact hoff p hp _ (by simp)
    · intro v t h' tk' m' l e F' N' sub
      subst e
      exact hret t h' tk' m' l F' N' fun p hp => sub p (List.mem_append_left _ hp)
    · intro k' h' tk' m' l o' cv' aR' aN s1 s2 s3 kN kR ek hrun' F' p1 p2 p3 N2 q1 q2 q3 q4 q5 q6 q7 q8
      have ek' : 12 - (i + 1) = k' := by omega
      refine ⟨h', tk', m', l, (L' + 1, o') :: (aR', listOf #[.ref aL, .ref aN] kR) :: (aL, tup3 x y z tx ty tz k2) :: (aN, tup3 (a - Int.tdiv a x * x) (b - Int.tdiv a x * y) (c - Int.tdiv a x * z) s1 s2 s3 kN) :: news, rfl, F', N2, ?_, fun p hp => q6 p (List.mem_append_right _ hp), ?_, x, y, z, _, _, _, tx, ty, tz, s1, s2, s3, kR, k2, kN, o', cv', aR', aL, aN, rfl, q2, p1, p2, p3, by rw [ek']; exact hrun'⟩
      · intro p hp
        simp only [List.mem_cons] at hp
        rcases hp with rfl | rfl | rfl | rfl | hp
        · exact q1
        · exact q3
        · exact q4
        · exact q5
        · exact q6 p (List.mem_append_left _ hp)
      · intro p hp b hb
        simp only [List.map_cons, List.mem_cons] at hb
        rcases hb with rfl | rfl | rfl | rfl | hb
        · exact hoff p hp _ (by simp)
        · exact q7 p (List.mem_append_right _ hp)
        · exact hoff p hp _ (by simp)
        · exact q8 p (List.mem_append_right _ hp)
        · exact hoff p hp _ (by simp only [List.map_cons, List.mem_cons]; exact .inr (.inr (.inr (.inr hb))))
  · rintro m₁ nx h1 tk1 ⟨a, b, c, x, y, z, ta, tb, tc, tx, ty, tz, k0, k1, k2, o, cv, aR, aF, aL, rfl, ho, hrows, hmod, hnum, hrun⟩ F1 N1
    simp [ivRun] at hrun
end
local macro_rules | `(tactic| walk_at "MINE enterC") => `(tactic| (refine' code_defC ?k1 ?k2 ?k3 ?k4 ?k5 ?kA ?kF ?kK ?k6 ?k7 ?k8 ?k9 ?kB ?kD ?_ ?c2 ?c3 ?c4; (case kA => exact rfl); (case kF => exact rfl); (case kK => first | assumption | exact rfl); (case k1 => k_asm); (case k2 => k_asm); (case k3 => k_asm); (case k4 => k_asm); (case k5 => k_asm); (case k6 => k_is); (case k7 => k_is); (case k8 => k_room); (case k9 => exact BindsTo.of_eq rfl); (case kB => exact rfl); (case kD => decide +kernel); (case c2 => exact rfl); (case c3 => exact rfl); (case c4 => exact rfl); k_whole; intro g' L' h' tk' cells' FG' F' N' Y' B' X' T' l1; (try k_lt l1); k_cells Y'; (try simp only [List.cons_append, List.nil_append] at N'); (try dsimp only); (try k_lift B'); (try k_fold)))
section
open PySem PySem.W PyProof.Rows
open PyProof.Rows.LCg (lst NsObj)
set_option linter.unusedVariables false






theorem inverse_c (w : World) (mean : ExcName → Option Value) (mg mb : Str → Option Value) (news : CbLed) (n m r : Int) (hr : ivRun 12 n 1 0 m 0 1 n m = some r) (hn : Fits n) (hm : 0 < m) (hm2 : m < 1000000) (t1 t2 : Tok) : Clm w mean mg mb 28 239 news [.int n t1, .int m t2] (fun t => .int r t) := by
  walk_at "MINE open"
  intro dp un gd cn cs a ccd cl outer A₀ base h₀ L mF s Q E hB hF hX hN hT hcs hroom hret
  refine wpAny_call ?_
  k_dflt (walk_at "MINE enterC")
  walk_at "MINE go"
  refine' inv_loop w mean mg mb ?a1 ?a2 ?a3 ?a4 ?a5 ?a6 ?b1 ?b2 ?b3 ?a7 ?a8 ?a9 hr hn hm hm2 ?a10 ?a11
  case a1 => k_dflt k_is
  case a2 => k_asm
  case a3 => k_asm
  case a4 => k_asm
  case a5 => exact Room.le hroom (by decide)
  case a6 => k_asm
  case b1 => exact rfl
  case b2 => exact rfl
  case b3 => exact rfl
  case a7 => k_asm
  case a8 => assumption
  case a9 => assumption
  case a10 => assumption
  case a11 =>
    intro t h'' tk'' m'' l F'' N'' sub
    exact ⟨_, _, l, F'', N'', fun FF NN => hret t _ _ FF (fun p hp => NN p (sub p hp))⟩
end
local macro_rules | `(tactic| walk_at "MINE all") => `(tactic| repeat' (first | (k_unfold; (try dsimp only)) | walk1 | (dsimp only; walk1) | fail "no step"))
local macro_rules | `(tactic| walk_at "subscriptTail Name Constant ref int") => `(tactic| (k_here; k_dflt (refine' my_item ?k1 ?k2 ?k3 ?k4 ?k5 ?_ ?k6; (case k1 => k_asm); (case k2 => k_mem); (case k3 => decide); (case k4 => decide); (case k5 => exact rfl); (case k6 => with_unfolding_all rfl))))
local macro_rules | `(tactic| walk_at "MINE fact") => `(tactic| first | assumption | exact ⟨by assumption, by assumption⟩)
section
open PySem PySem.W PyProof.Rows
open PyProof.Rows.LCg (lst NsObj)
set_option linter.unusedVariables false







local macro_rules | `(tactic| walk_at "exec For Tuple Call cons nil") => `(tactic| (k_here; (rename Fr _ _ _ _ => lF'); (with_unfolding_all refine' For_turns lF' ?_; k_whole)))
theorem map_put2 {m : Str → Option Value} {a b : Str} {va vb : Value} (ha : m a = some va) (hb : m b = some vb) : m = fun y => if y = a then some va else if y = b then some vb else m y := by
  funext y
  by_cases h1 : y = a
  · rw [if_pos h1, h1, ha]
  · rw [if_neg h1]
    by_cases h2 : y = b
    · rw [if_pos h2, h2, hb]
    · rw [if_neg h2]
/-- a list of three ints -/
abbrev l3 (a b c : Int) (t1 t2 t3 : Tok) (k : Nat) : Obj := { cls := .type "list", data := .seq #[.int a t1, .int b t2, .int c t3] k }
structure Sm (x : Int) : Prop where
  lo : -1000000 ≤ x
  hi : x < 1000000
theorem sum_told_c (w : World) (mean : ExcName → Option Value) (mg mb : Str → Option Value) (l : CbLed) (a1 a2 : Addr) (r0 r1 r2 p0 p1 p2 m : Int) (t0 t1 t2 s0 s1 s2 tm : Tok) (k1 k2 : Nat)
    (h1 : (a1, l3 r0 r1 r2 t0 t1 t2 k1) ∈ l) (h2 : (a2, l3 p0 p1 p2 s0 s1 s2 k2) ∈ l)
    (b0 : -1000000 ≤ r0) (b0' : r0 < 1000000) (b1 : -1000000 ≤ r1) (b1' : r1 < 1000000) (b2 : -1000000 ≤ r2) (b2' : r2 < 1000000) (c0 : -1000000 ≤ p0) (c0' : p0 < 1000000) (c1 : -1000000 ≤ p1) (c1' : p1 < 1000000) (c2 : -1000000 ≤ p2) (c2' : p2 < 1000000)
    (f0 : Fits (r0 * p0)) (f1 : Fits (r1 * p1)) (f2 : Fits (r2 * p2)) (g0 : Fits (0 + r0 * p0)) (g1 : Fits (0 + r0 * p0 + r1 * p1)) (g2 : Fits (0 + r0 * p0 + r1 * p1 + r2 * p2)) (hm : 0 < m) (hm2 : m < 1000000) (hf : Fits (Int.tmod (0 + r0 * p0 + r1 * p1 + r2 * p2) m)) :
    Clm w mean mg mb 20 246 l [.ref a1, .ref a2, .int m tm] (fun t => .int (Int.tmod (0 + r0 * p0 + r1 * p1 + r2 * p2) m) t) := by
  walk_at "MINE open"
  intro dp un gd cn cs a ccd cl outer A₀ base h₀ L mF s Q E hB hF hX hN hT hcs hroom hret
  have hN2 : News h₀ L s.heap ((a1, l3 r0 r1 r2 t0 t1 t2 k1) :: (a2, l3 p0 p1 p2 s0 s1 s2 k2) :: l) := fun p hp => by
    rcases List.mem_cons.mp hp with rfl | hp
    · exact hN _ h1
    · rcases List.mem_cons.mp hp with rfl | hp
      · exact hN _ h2
      · exact hN _ hp
  replace hret : ∀ (t : Tok) (h' : Heap) (tk' : Nat), Fr h₀ L h' mF → News h₀ L h' ((a1, l3 r0 r1 r2 t0 t1 t2 k1) :: (a2, l3 p0 p1 p2 s0 s1 s2 k2) :: l) → Q (.int (Int.tmod (0 + r0 * p0 + r1 * p1 + r2 * p2) m) t) { s with heap := h', toks := tk' } := fun t h' tk' F N => hret t h' tk' F fun p hp => N p (.tail _ (.tail _ hp))
  clear hN h1 h2
  refine wpAny_call ?_
  k_dflt cell_enter
  walk_at "MINE go"
  rename News _ _ _ _ => N8
  refine turns_at2 (xs1 := #[.int r0 t0, .int r1 t1, .int r2 t2]) (xs2 := #[.int p0 s0, .int p1 s1, .int p2 s2]) (b1 := false) (b2 := false) (n := 3)
    (fun i m₁ => (∃ t, m₁ (Str.ofString "found") = some (.int ([0, 0 + r0 * p0, 0 + r0 * p0 + r1 * p1, 0 + r0 * p0 + r1 * p1 + r2 * p2].getD i 0) t)) ∧ m₁ (Str.ofString "whole") = some (.int m tm))
    (by rfl) (by k_asm) N8 (src_list N8 (by k_mem)) (src_list N8 (by k_mem)) (src_ne N8 (by k_mem)) (src_ne N8 (by k_mem)) rfl rfl (by rfl) (by rfl) (by rfl) ⟨⟨_, rfl⟩, rfl⟩ ?turn ?done
  case turn =>
    clear N8
    intro i x1 x2 m₁ h9 tk9 own hi g1 g2 hJ F9 N9
    obtain ⟨⟨tq, hJ1⟩, hJ2⟩ := hJ
    obtain ⟨m2, em⟩ : ∃ m2 : Str → Option Value, m₁ = fun y => if y = Str.ofString "found" then some (.int ([0, 0 + r0 * p0, 0 + r0 * p0 + r1 * p1, 0 + r0 * p0 + r1 * p1 + r2 * p2].getD i 0) tq) else if y = Str.ofString "whole" then some (.int m tm) else m2 y := ⟨m₁, map_put2 hJ1 hJ2⟩
    subst em
    clear hJ1 hJ2
    simp only [List.cons_append, List.nil_append] at N9
    match i, hi with
    | 0, _ =>
      cases (show some (.int r0 t0) = some x1 from g1); cases (show some (.int p0 s0) = some x2 from g2)
      simp only [List.getD_cons_zero, List.getD_cons_succ] at F9
      clear g1 g2
      walk_at "MINE go"
      rename News _ _ _ _ => N10
      rename Fr _ _ _ _ => F10
      exact ⟨_, _, _, rfl, F10, N10, ⟨_, rfl⟩, rfl⟩
    | 1, _ =>
      cases (show some (.int r1 t1) = some x1 from g1); cases (show some (.int p1 s1) = some x2 from g2)
      simp only [List.getD_cons_zero, List.getD_cons_succ] at F9
      clear g1 g2
      walk_at "MINE go"
      rename News _ _ _ _ => N10
      rename Fr _ _ _ _ => F10
      exact ⟨_, _, _, rfl, F10, N10, ⟨_, rfl⟩, rfl⟩
    | 2, _ =>
      cases (show some (.int r2 t2) = some x1 from g1); cases (show some (.int p2 s2) = some x2 from g2)
      simp only [List.getD_cons_zero, List.getD_cons_succ] at F9
      clear g1 g2
      walk_at "MINE go"
      rename News _ _ _ _ => N10
      rename Fr _ _ _ _ => F10
      exact ⟨_, _, _, rfl, F10, N10, ⟨_, rfl⟩, rfl⟩
  case done =>
    intro m₁ h9 tk9 hJ F9 N9
    obtain ⟨⟨tq, hJ1⟩, hJ2⟩ := hJ
    obtain ⟨m2, em⟩ : ∃ m2 : Str → Option Value, m₁ = fun y => if y = Str.ofString "found" then some (.int ([0, 0 + r0 * p0, 0 + r0 * p0 + r1 * p1, 0 + r0 * p0 + r1 * p1 + r2 * p2].getD 3 0) tq) else if y = Str.ofString "whole" then some (.int m tm) else m2 y := ⟨m₁, map_put2 hJ1 hJ2⟩
    subst em
    simp only [List.getD_cons_zero, List.getD_cons_succ] at F9
    clear hJ1 hJ2
    walk_at "MINE go"
    cb_end hret
end
section
open PySem PySem.W PyProof.Rows
open PyProof.Rows.LCg (lst NsObj)
set_option linter.unusedVariables false







/-- a helper that gives a new list of three ints -/
def ClmL (w : World) (mean : ExcName → Option Value) (mg mb : Str → Option Value) (R : Nat) (f : Addr) (news : CbLed) (vs : List Value) (v0 v1 v2 : Int) : Prop :=
  ∀ (dp un : Nat) (gd : Option (List Code)) (cn : Str) (cs : Scope) (a : Addr) (ccd : Value) (cl : List (Str × Addr)) (outer : List Env) (A₀ : Around) (base h₀ : Heap) (L : Addr) (m : Str → Option Value) (s : Shared) (Q E : Value → Shared → Prop),
    Below A₀ base outer h₀ → Fr h₀ L s.heap m → (Mine.k0.heap_1 w.params).In h₀ → News h₀ L s.heap news → Top Mine.view loose0 mean mg mb h₀ → cs.kind = .function →
    Room dp un R → (∀ D k t0 t1 t2 h' tk', Fr h₀ L h' m → News h₀ L h' ((D, l3 v0 v1 v2 t0 t1 t2 k) :: news) → (∀ p ∈ news, p.1 < D) → Q (.ref D) { s with heap := h', toks := tk' }) →
      wpAny (model prog0 w) (ktrTop dp un gd cn cs L a ccd cl outer) (call (.ref f) vs) Q E s
theorem news_drop3 {h₀ h : Heap} {L : Addr} {x a b c : Addr × Obj} {l : List (Addr × Obj)} (N : News h₀ L h (x :: a :: b :: c :: l)) : News h₀ L h (x :: l) := fun p hp => by
  rcases List.mem_cons.mp hp with rfl | hp
  · exact N _ (.head _)
  · exact N _ (.tail _ (.tail _ (.tail _ (.tail _ hp))))
theorem figures_c (w : World) (mean : ExcName → Option Value) (mg mb : Str → Option Value) (l : CbLed) (a1 a2 a3 : Addr) (r0 r1 r2 m1 m2 m3 o1 o2 o3 : Int) (t0 t1 t2 s0 s1 s2 u0 u1 u2 : Tok) (k1 k2 k3 : Nat)
    (h1 : (a1, l3 r0 r1 r2 t0 t1 t2 k1) ∈ l) (h2 : (a2, tup3 m1 m2 m3 s0 s1 s2 k2) ∈ l) (h3 : (a3, l3 o1 o2 o3 u0 u1 u2 k3) ∈ l)
    (b1 : -1000000 ≤ r1 - r0) (b1' : r1 - r0 < 1000000) (c1 : -1000000 ≤ o1) (c1' : o1 < 1000000) (f1 : Fits ((r1 - r0) * o1)) (hm2 : 0 < m2) (hm2' : m2 < 1000000)
    (b2 : -1000000 ≤ r2 - r0) (b2' : r2 - r0 < 1000000) (c2 : -1000000 ≤ o2) (c2' : o2 < 1000000) (f2 : Fits ((r2 - r0) * o2))
    (f3 : Fits ((r2 - r0) * o2 - (r1 - r0) * o1 % m2)) (b3 : -1000000 ≤ (r2 - r0) * o2 - (r1 - r0) * o1 % m2) (b3' : (r2 - r0) * o2 - (r1 - r0) * o1 % m2 < 1000000) (c3 : -1000000 ≤ o3) (c3' : o3 < 1000000)
    (f4 : Fits (((r2 - r0) * o2 - (r1 - r0) * o1 % m2) * o3)) (hm3 : 0 < m3) (hm3' : m3 < 1000000) :
    ClmL w mean mg mb 24 253 l [.ref a1, .ref a2, .ref a3] r0 ((r1 - r0) * o1 % m2) (((r2 - r0) * o2 - (r1 - r0) * o1 % m2) * o3 % m3) := by
  dsimp only [ClmL, prog0, loose0]
  k_fill
  intro dp un gd cn cs a ccd cl outer A₀ base h₀ L mF s Q E hB hF hX hN hT hcs hroom hret
  have hN2 : News h₀ L s.heap ((a1, l3 r0 r1 r2 t0 t1 t2 k1) :: (a2, tup3 m1 m2 m3 s0 s1 s2 k2) :: (a3, l3 o1 o2 o3 u0 u1 u2 k3) :: l) := fun p hp => by
    rcases List.mem_cons.mp hp with rfl | hp
    · exact hN _ h1
    · rcases List.mem_cons.mp hp with rfl | hp
      · exact hN _ h2
      · rcases List.mem_cons.mp hp with rfl | hp
        · exact hN _ h3
        · exact hN _ hp
  clear hN h1 h2 h3
  refine wpAny_call ?_
  k_dflt cell_enter
  walk_at "MINE all"
  rename News _ _ _ _ => N10
  rename Fr _ _ _ _ => F10
  rename _ ∧ _ ∧ _ ∧ AllLt _ _ => q1
  exact hret _ _ _ _ _ _ _ F10 (news_drop3 N10) (ktn_ltOf q1.2.2.2)
end
end
local macro_rules | `(tactic| walk_at "subscriptTail Name Constant ref int") => `(tactic| (k_here; k_dflt (refine' my_item ?k1 ?k2 ?k3 ?k4 ?k5 ?_ ?k6; (case k1 => k_asm); (case k2 => k_mem); (case k3 => decide); (case k4 => decide); (case k5 => exact rfl); (case k6 => with_unfolding_all rfl))))
local macro_rules | `(tactic| walk_at "MINE enterC") => `(tactic| (refine' code_defC ?k1 ?k2 ?k3 ?k4 ?k5 ?kA ?kF ?kK ?k6 ?k7 ?k8 ?k9 ?kB ?kD ?_ ?c2 ?c3 ?c4; (case kA => exact rfl); (case kF => exact rfl); (case kK => first | assumption | exact rfl); (case k1 => k_asm); (case k2 => k_asm); (case k3 => k_asm); (case k4 => k_asm); (case k5 => k_asm); (case k6 => k_is); (case k7 => k_is); (case k8 => k_room); (case k9 => exact BindsTo.of_eq rfl); (case kB => exact rfl); (case kD => decide +kernel); (case c2 => exact rfl); (case c3 => exact rfl); (case c4 => exact rfl); k_whole; intro g' L' h' tk' cells' FG' F' N' Y' B' X' T' l1; (try k_lt l1); k_cells Y'; (try simp only [List.cons_append, List.nil_append] at N'); (try dsimp only); (try k_lift B'); (try k_fold)))
local macro_rules | `(tactic| walk_at "MINE all") => `(tactic| repeat' (first | (k_unfold; (try dsimp only)) | walk1 | (dsimp only; walk1) | fail "no step"))
section
open PySem PySem.W PyProof.Rows
open PyProof.Rows.LCg (lst NsObj)
set_option linter.unusedVariables false







local macro_rules | `(tactic| k_all) => `(tactic| assumption)
theorem my_len {prog : Program} {w : World} {A : Around} {E : Value → Shared → Prop} {s : Shared} {h₀ : Heap} {L : Addr} {l : Addr} {news : List (Addr × Obj)} {vs : List Value} {c : Nat} {Q : Value → Shared → Prop}
    (N : News h₀ L s.heap news) (hm : (l, ({ cls := .type "list", data := .seq vs.toArray c } : Obj)) ∈ news) (hlen : vs.length ≤ 63) (h : Q (.int (vs.length : Int) (s.toks + 1)) { s with toks := s.toks + 1 + 1 }) :
    wpAny (model prog w) A (call (.builtin "len") [.ref l]) Q E s := by
  have hl : s.heap.IsList l vs.toArray := ⟨_, (N _ hm).1, rfl, _, rfl⟩
  have e : vs.toArray.size = vs.length := List.size_toArray
  exact len_list hl (by rw [e]; omega) (by rw [e]; exact h)
theorem my_int_item {prog : Program} {w : World} {A : Around} {E : Value → Shared → Prop} {s : Shared} {h₀ : Heap} {L : Addr} {value slice : PySem.Expr} {l : Addr} {news : List (Addr × Obj)} {vs : List Value} {ns : List Int} {c : Nat} {k : Int} {u : Tok} {Q : Value → Shared → Prop}
    (N : News h₀ L s.heap news) (hm : (l, ({ cls := .type "list", data := .seq vs.toArray c } : Obj)) ∈ news) (hI : IntsAre vs ns) (h0 : 0 ≤ k) (h1 : k < (vs.length : Int)) (h2 : vs.length ≤ 63) (h : ∀ n t, Q (.int n t) s)
    (hs : subscripted slice false (.ref l) (.int k u) = operate [.ref l, .int k u] (getItem (.ref l) (.int k u))) :
    wpAny (model prog w) A (subscriptTail value slice (.ref l) (.int k u)) Q E s := by
  have hl : s.heap.IsList l vs.toArray := ⟨_, (N _ hm).1, rfl, _, rfl⟩
  have hk : k.toNat < ns.length := by rw [← hI.length]; omega
  obtain ⟨t, hx⟩ := hI.get k.toNat ns[k.toNat] (by simp [hk])
  exact tail_any hl.typeIs slot_list_getitem.lookup (wpAny_getItem_list hl h0 (by omega) (by simpa using hx) (h _ t)) hs
local macro_rules | `(tactic| walk_at "call builtin:len") => `(tactic| (k_here; k_dflt (refine' my_len ?k1 ?k2 ?k3 ?_; (case k1 => k_asm); (case k2 => k_mem); (case k3 => assumption))))
local macro_rules | `(tactic| walk_at "subscriptTail Subscript") => `(tactic| (k_here; k_dflt (refine' my_int_item ?k1 ?k2 ?kI ?k3 ?k4 ?k5 ?_ ?k6; (case k1 => k_asm); (case k2 => k_mem); (case kI => assumption); (case k3 => assumption); (case k4 => assumption); (case k5 => assumption); (case k6 => with_unfolding_all rfl); (intro n9 t9))))
/-- the bag: its list, and the next place -/
abbrev bagO (sl : Addr) (spot : Int) (t : Tok) (k : Nat) : Obj := { cls := .type "list", data := .seq #[.ref sl, .int spot t] k }
abbrev scrO (vs : List Value) (k : Nat) : Obj := { cls := .type "list", data := .seq vs.toArray k }
def ClmN (w : World) (mean : ExcName → Option Value) (mg mb : Str → Option Value) (R : Nat) (l : CbLed) (b sl : Addr) (vs : List Value) (ks : Nat) (spot below : Int) : Prop :=
  ∀ (dp un : Nat) (gd : Option (List Code)) (cn : Str) (cs : Scope) (a : Addr) (ccd : Value) (cl : List (Str × Addr)) (outer : List Env) (A₀ : Around) (base h₀ : Heap) (L : Addr) (m : Str → Option Value) (s : Shared) (ts tb : Tok) (k : Nat) (Q E : Value → Shared → Prop),
    Below A₀ base outer h₀ → Fr h₀ L s.heap m → (Mine.k0.heap_1 w.params).In h₀ → News h₀ L s.heap ((b, bagO sl spot ts k) :: (sl, scrO vs ks) :: l) → (∀ p ∈ l, p.1 ≠ b) → sl ≠ b → Top Mine.view loose0 mean mg mb h₀ → cs.kind = .function →
    Room dp un R → (∀ r t ts' k' h' tk', 0 ≤ r → r < below → Fr h₀ L h' m → News h₀ L h' ((b, bagO sl (spot + 1) ts' k') :: (sl, scrO vs ks) :: l) → Q (.int r t) { s with heap := h', toks := tk' }) →
      wpAny (model prog0 w) (ktrTop dp un gd cn cs L a ccd cl outer) (call (.ref 220) [.ref b, .int below tb]) Q E s
theorem next_told_c (w : World) (mean : ExcName → Option Value) (mg mb : Str → Option Value) (l : CbLed) (b sl : Addr) (vs : List Value) (ns : List Int) (ks : Nat) (spot below : Int) (hI : IntsAre vs ns) (hlen : vs.length ≤ 63) (hs0 : 0 ≤ spot) (hs1 : spot < 1000) (hb0 : 0 < below) (hb1 : below < 1000000) :
    ClmN w mean mg mb 8 l b sl vs ks spot below := by
  dsimp only [ClmN, prog0, loose0]
  k_fill
  intro dp un gd cn cs a ccd cl outer A₀ base h₀ L mF s ts tb k Q E hB hF hX hN hne hsb hT hcs hroom hret
  refine wpAny_call ?_
  k_dflt cell_enter
  walk_at "MINE all"
  all_goals
    rename News _ _ _ _ => N10
    rename Fr _ _ _ _ => F10
    exact hret _ _ _ _ _ _ (Int.fmod_nonneg_of_pos _ hb0) (Int.fmod_lt_of_pos _ hb0) F10 N10
end
section
open PySem PySem.W PyProof.Rows PySem.Spec PySem.Calls
set_option linter.unusedVariables false
open PyProof.Rows.LCg (lst lst_snoc NsObj ns_obj)
theorem newEnv_cell {M : Model} {A : Around} {E : Value → Shared → Prop} {s : Shared} {env : Env} {scope : Scope} {globals : Addr} {qual : Str} {cl : List (Str × Addr)} {x y z : Str} {Q : Env → Shared → Prop}
    (hs : scope.names = [(z, .local), (x, .cell), (y, .free)])
    (hQ : Q { scope, locals := s.heap.objs.size, globals, cells := (x, (s.heap.push { cls := .type "dict", data := .dict #[] }).objs.size) :: cl, qual, func := none, code := env.code, frame := env.frame, builtins := env.builtins }
      { s with heap := (s.heap.push { cls := .type "dict", data := .dict #[] }).push { cls := .type "cell", data := .cell none } }) :
    wpAny M A (newFunctionEnv scope globals cl [] qual none .none (some env)) Q E s := by
  simp only [newFunctionEnv, Option.isSome_some, if_true, hs, List.forIn_cons, List.forIn_nil]
  refine wpAny_bind (wpAny_alloc ?_)
  refine wpAny_bind ?_
  rw [if_neg (by decide)]
  refine wpAny_bind (wpAny_pure ?_)
  dsimp only
  rw [if_pos (by decide)]
  refine wpAny_bind (wpAny_bind (wpAny_alloc (wpAny_pure ?_)))
  dsimp only
  rw [if_neg (by decide)]
  refine wpAny_bind (wpAny_pure ?_)
  dsimp only
  exact wpAny_pure (wpAny_bind (wpAny_pure (wpAny_pure hQ)))
section
variable {prog : Program} {w : World} {A : Around} {E : Value → Shared → Prop} {s : Shared} {h₀ : Heap} {L : Addr} {m : Str → Option Value} {env : Env}
def EltEndC (h₀ : Heap) (L C cc : Addr) (m : Str → Option Value) (s₁ : Shared) (Obs : Value → Heap → Prop) (y : Value) (s₂ : Shared) : Prop :=
  ∃ h' tk mC, s₂ = { s₁ with heap := h', toks := tk } ∧ Fr h₀ L h' m ∧ h'.Ns C mC ∧ (∃ v, h'.IsCell cc v) ∧ (∀ b o, b ≠ C → b ≠ cc → b ≠ L → s₁.heap.get? b = some o → h'.get? b = some o) ∧ Obs y h' ∧ (∀ a, y = .ref a → s₁.heap.get? a = none)
theorem comp_blk_c {elt target iter : PySem.Expr} {scope : Scope} {cl : List (Str × Addr)} {pos : Pos} {s₂ : Shared} {z : Addr} {fp wr : List Addr} {n : Nat} {P Md : Nat → Value → Heap → Prop} {St : Nat → Heap → Prop}
    {RR : Value → Addr → Result → Shared → Prop} (Obs : Nat → Value → Heap → Prop) (hObs : ∀ i y h h', Obs i y h → (∀ a, y = .ref a → ∀ o, h.get? a = some o → h'.get? a = some o) → Obs i y h')
    (W : KTurns prog w A target z fp wr n P Md St)
    (hlive : ∀ i h, St i h → ∀ b ∈ fp, ∃ o, h.get? b = some o)
    (hself : ∀ (s : Shared) (Q : Value → Shared → Prop) (E : Value → Shared → Prop), St 0 s.heap → Q (.ref z) s → wpAny (model prog w) A (pyIter (.ref z)) Q E s) (hsz : n ≤ sizeLine)
    {x0 y0 z0 : Str} (hnm : scope.names = [(z0, .local), (x0, .cell), (y0, .free)]) (hkind : scope.kind = .function) (hst : St 0 s₂.heap) (hfp : ∀ b ∈ fp, b < s₂.heap.objs.size)
    (F : Fr h₀ L s₂.heap m) (hLf : L ∉ fp) (hwr : ∀ b ∈ wr, h₀.get? b = none)
    (turn : ∀ i v C cc h tk mC (E' : Value → Shared → Prop), i < n → P i v h → h.Ns C mC → (∃ v, h.IsCell cc v) → cc ≠ C → cc ≠ L → s₂.heap.objs.size ≤ cc → h₀.get? cc = none → C ≠ L → s₂.heap.objs.size ≤ C → h₀.get? C = none → C < h.objs.size → s₂.heap.objs.size ≤ h.objs.size →
      (∀ b o, b ∉ wr → b ≠ L → s₂.heap.get? b = some o → h.get? b = some o) → Fr h₀ L h m →
      wpAny (model prog w) A (assign target (compEnvC scope ((x0, cc) :: cl) C env) v) (fun _ s₃ => wpAny (model prog w) A (eval elt (compEnvC scope ((x0, cc) :: cl) C env)) (EltEndC h₀ L C cc m { s₂ with heap := h, toks := tk } (Obs i)) E' s₃) E' { s₂ with heap := h, toks := tk })
    (hRR : ∀ D C h tk mC ys, ys.length = n → Fr h₀ L h m → h.get? D = some (lst ys) → h.Ns C mC → h₀.get? C = none → h₀.get? D = none → C ≠ L → D ≠ L → C ≠ D → s₂.heap.objs.size ≤ D → s₂.heap.objs.size ≤ C → (∀ b o, b ∉ wr → b ≠ L → s₂.heap.get? b = some o → h.get? b = some o) →
      (∀ i y, ys[i]? = some y → Obs i y h ∧ ∀ a, y = .ref a → a ≠ D ∧ a ≠ C ∧ a ≠ L ∧ h₀.get? a = none ∧ s₂.heap.get? a = none) → RR (.ref D) C (.ok .next) { s₂ with heap := h, toks := tk }) :
    wpAny (model prog w) A (newList []) (fun acc s₃ => wpAny (model prog w) A (newFunctionEnv scope env.globals cl [] env.qual none .none (some env)) (fun cenv s₄ =>
      codeAny (model prog w) A (.compStart (.ListComp elt [⟨target, iter, [], 0⟩] scope pos) 0 (.ref z) acc { cenv with scope := relabel scope env }) (RR acc cenv.locals) s₄) E s₃) E s₂ := by
  refine wpAny_newObj_type (newEnv_cell hnm ?_)
  dsimp only
  generalize hH2 : s₂.heap.push { cls := .type "list", dict := none, data := .seq ([] : List Value).toArray } = H2
  generalize hH3 : H2.push { cls := .type "dict", data := .dict #[] } = H3
  generalize hh1 : H3.push { cls := .type "cell", data := .cell none } = h₁
  have hc3 : H3.objs.size = s₂.heap.objs.size + 2 := by rw [← hH3, Heap.size_push, ← hH2, Heap.size_push]
  have hC : H2.objs.size = s₂.heap.objs.size + 1 := by rw [← hH2, Heap.size_push]
  have hDC : s₂.heap.objs.size ≠ H2.objs.size := by rw [hC]; exact Nat.ne_of_lt (Nat.lt_succ_self _)
  have below : ∀ b, b < s₂.heap.objs.size → b ≠ H2.objs.size ∧ b ≠ s₂.heap.objs.size := fun b hb => ⟨by rw [hC]; exact Nat.ne_of_lt (Nat.lt_succ_of_lt hb), Nat.ne_of_lt hb⟩
  have hDf : s₂.heap.objs.size ∉ fp := fun hm => Nat.lt_irrefl _ (hfp _ hm)
  have hCf : H2.objs.size ∉ fp := fun hm => by have := hfp _ hm; rw [hC] at this; exact Nat.lt_irrefl _ (Nat.lt_of_succ_lt this)
  have old : ∀ b o, s₂.heap.get? b = some o → h₁.get? b = some o := fun b o e => by
    rw [← hh1, ← hH3, ← hH2]
    exact Heap.get?_push_of_some _ (Heap.get?_push_of_some _ (Heap.get?_push_of_some _ e))
  have hacc : h₁.get? s₂.heap.objs.size = some (lst []) := by
    rw [← hh1, ← hH3, ← hH2]
    exact Heap.get?_push_of_some _ (Heap.get?_push_of_some _ (Heap.get?_push_size _ rfl))
  have hns₁ : h₁.Ns H2.objs.size (fun _ => none) := by
    rw [← hh1, ← hH3]
    exact (Heap.Ns.new H2 (.type "dict")).keeps fun b o e => Heap.get?_push_of_some _ e
  have hcel : h₁.IsCell H3.objs.size none := by
    rw [← hh1]
    exact ⟨_, Heap.get?_push_size _ rfl, rfl⟩
  have hccC : H3.objs.size ≠ H2.objs.size := by rw [hc3, hC]; exact Nat.succ_ne_self _
  have hccD : H3.objs.size ≠ s₂.heap.objs.size := by rw [hc3]; exact Nat.ne_of_gt (Nat.lt_add_of_pos_right (by decide))
  have hccs : s₂.heap.objs.size ≤ H3.objs.size := by rw [hc3]; exact Nat.le_add_right _ _
  have hst₁ : St 0 h₁ := W.frame _ _ _ hst fun b _ o e => old b o e
  have fresh : ∀ a, s₂.heap.objs.size ≤ a → s₂.heap.get? a = none := fun a ha => by
    cases e : s₂.heap.get? a with
    | none => rfl
    | some o' => exact absurd (Heap.lt_size e) (Nat.not_lt.mpr ha)
  have fresh₀ : ∀ a, s₂.heap.get? a = none → h₀.get? a = none := fun a ha => by
    cases e : h₀.get? a with
    | none => rfl
    | some o' => have := F.keep a o' e; rw [ha] at this; cases this
  have hD₀ : h₀.get? s₂.heap.objs.size = none := fresh₀ _ (fresh _ (Nat.le_refl _))
  have hC₀ : h₀.get? H2.objs.size = none := fresh₀ _ (fresh _ (by rw [hC]; exact Nat.le_succ _))
  have hLlt : L < s₂.heap.objs.size := F.ns.lt
  have hcc₀ : h₀.get? H3.objs.size = none := fresh₀ _ (fresh _ hccs)
  have hccL : H3.objs.size ≠ L := Nat.ne_of_gt (Nat.lt_of_lt_of_le hLlt hccs)
  have hccf : H3.objs.size ∉ fp := fun hm => Nat.lt_irrefl _ (Nat.lt_of_lt_of_le (hfp _ hm) hccs)
  have hfcc : ∀ b ∈ fp, b ≠ H3.objs.size := fun b hb q => hccf (q ▸ hb)
  have hDL : s₂.heap.objs.size ≠ L := Ne.symm (below L hLlt).2
  have hCL : H2.objs.size ≠ L := Ne.symm (below L hLlt).1
  have hfC : ∀ b ∈ fp, b ≠ H2.objs.size := fun b hb => (below b (hfp b hb)).1
  have hfD : ∀ b ∈ fp, b ≠ s₂.heap.objs.size := fun b hb => (below b (hfp b hb)).2
  have hLw : L ∉ wr := fun h => hLf (W.sub _ h)
  have old₀ : ∀ b o, h₀.get? b = some o → b ∉ wr := fun b o e hb => by rw [hwr b hb] at e; cases e
  have frw : ∀ h h', Fr h₀ L h m → (∀ b o, b ∉ wr → h.get? b = some o → h'.get? b = some o) → Fr h₀ L h' m := fun h h' F' hk =>
    ⟨F'.ns.at' fun o e => hk _ o hLw e, fun b o e => hk b o (old₀ b o e) (F'.keep b o e), F'.above⟩
  have loop : ∀ s₃ : Shared, s₃ = { s₂ with heap := h₁ } →
      codeAny (model prog w) A (.compLoop (.ListComp elt [⟨target, iter, [], 0⟩] scope pos) 0 (.ref z) (.ref s₂.heap.objs.size) (compEnvC scope ((x0, H3.objs.size) :: cl) H2.objs.size env))
        (RR (.ref s₂.heap.objs.size) H2.objs.size) s₃ := by
    rintro s₃ rfl
    refine kcp_loop
      (fun k s' => ∃ h' tk i ys m', s' = { s₂ with heap := h', toks := tk } ∧ i ≤ n ∧ k = n + 1 - i ∧ ys.length = i ∧ St i h' ∧ Fr h₀ L h' m ∧ h'.Ns H2.objs.size m' ∧ (∃ v, h'.IsCell H3.objs.size v) ∧ h'.get? s₂.heap.objs.size = some (lst ys) ∧
        (∀ b o, b ∉ wr → b ≠ L → s₂.heap.get? b = some o → h'.get? b = some o) ∧
        (∀ i y, ys[i]? = some y → Obs i y h' ∧ ∀ a, y = .ref a → a ≠ s₂.heap.objs.size ∧ a ≠ H2.objs.size ∧ a ≠ H3.objs.size ∧ a ≠ L ∧ a ∉ fp ∧ s₂.heap.get? a = none)) ?_ (n + 1)
      ⟨h₁, _, 0, [], _, rfl, Nat.zero_le _, rfl, rfl, hst₁, F.keeps old, hns₁, ⟨_, hcel⟩, hacc, fun b o _ _ e => old b o e, fun i y e => by simp at e⟩
    rintro k s' ⟨h', tk, i, ys, m', rfl, hi, rfl, hyl, hst', F', hn', hce', hD', hk', hO'⟩
    have hCw : H2.objs.size ∉ wr := fun q => hCf (W.sub _ q)
    have hDw : s₂.heap.objs.size ∉ wr := fun q => hDf (W.sub _ q)
    have hccw : H3.objs.size ∉ wr := fun q => hccf (W.sub _ q)
    by_cases hlt : i < n
    · refine W.item i _ _ _ hlt hst' fun v h₂ tk₂ hMd hk₂ => ?_
      refine W.go i v _ _ _ hMd fun h₃ hP hst₃ hk₃ => ?_
      have hk₃' : ∀ b o, b ∉ wr → h'.get? b = some o → h₃.get? b = some o := fun b o hb e => hk₃ b o hb (hk₂ b o hb e)
      have hn₃ : h₃.Ns H2.objs.size m' := hn'.at' fun o e => hk₃' _ o hCw e
      have hD₃ := hk₃' _ _ hDw hD'
      have hce₃ : ∃ v, h₃.IsCell H3.objs.size v := by obtain ⟨v, o, e, d⟩ := hce'; exact ⟨v, o, hk₃' _ _ hccw e, d⟩
      refine wpAny_mono (turn i v H2.objs.size H3.objs.size h₃ tk₂ m' _ hlt hP hn₃ hce₃ hccC hccL hccs hcc₀ hCL (by rw [hC]; exact Nat.le_succ _) hC₀ hn₃.lt (Nat.le_of_lt (Heap.lt_size hD₃)) (fun b o hb hb' e => hk₃' b o hb (hk' b o hb hb' e)) (frw _ _ F' hk₃')) (fun _ s₄ h₄ => wpAny_mono h₄ (fun y s₅ h₅ => ?_) fun _ _ e => e) fun _ _ e => e
      obtain ⟨h₅, tk₅, mC, rfl, F₅, hn₅, hce₅, hk₅, hO₅, hf₅⟩ := h₅
      dsimp only at hk₅ hf₅
      have hD₅ := hk₅ _ _ hDC (Ne.symm hccD) hDL hD₃
      have hst₅ : St (i + 1) h₅ := W.frame _ _ _ hst₃ fun b hb o e => hk₅ b o (hfC b hb) (hfcc b hb) (fun q => hLf (q ▸ hb)) e
      refine append_at (hsz := by show ys.toArray.size ≤ sizeLine; rw [List.size_toArray, hyl]; exact Nat.le_trans hi hsz) hD₅ fun h₆ hs₆ hD₆ => ?_
      refine ⟨n + 1 - (i + 1), by omega, h₆, tk₅, i + 1, ys ++ [y], mC, rfl, hlt, rfl, by rw [List.length_append, List.length_singleton, hyl], W.frame _ _ _ hst₅ fun b hb o e => hs₆.extBut b o (hfD b hb) e, F₅.change hs₆ hDL hD₀,
        hn₅.sameBut hs₆ (Ne.symm hDC), (by obtain ⟨v, o, e, d⟩ := hce₅; exact ⟨v, o, hs₆.extBut _ _ hccD e, d⟩), hD₆.trans (congrArg some (lst_snoc ys y)), fun b o hb hbL e => ?_, ?_⟩
      · have hb' := below b (Heap.lt_size e)
        exact hs₆.extBut b o hb'.2 (hk₅ b o hb'.1 (fun q => absurd (Heap.lt_size e) (Nat.not_lt.mpr (q ▸ hccs))) hbL (hk₃' b o hb (hk' b o hb hbL e)))
      · intro j y' hj
        by_cases hjl : j < ys.length
        · rw [List.getElem?_append_left hjl] at hj
          obtain ⟨ob, fr⟩ := hO' j y' hj
          refine ⟨hObs _ _ _ _ ob fun a ha o e => ?_, fr⟩
          obtain ⟨a1, a2, ac, a3, a4, a5⟩ := fr a ha
          exact hs₆.extBut a o a1 (hk₅ a o a2 ac a3 (hk₃' a o (fun q => a4 (W.sub _ q)) e))
        · rw [List.getElem?_append_right (Nat.not_lt.mp hjl)] at hj
          have hj' : j = i ∧ y' = y := by
            have : j - ys.length = 0 := by
              cases q : j - ys.length with
              | zero => rfl
              | succ q' => rw [q] at hj; simp at hj
            rw [this] at hj
            exact ⟨by omega, by simpa using hj.symm⟩
          obtain ⟨rfl, rfl⟩ := hj'
          have nf : ∀ a, y' = .ref a → a ≠ s₂.heap.objs.size ∧ a ≠ H2.objs.size ∧ a ≠ H3.objs.size ∧ a ≠ L ∧ a ∉ fp ∧ s₂.heap.get? a = none := by
            intro a ha
            have q := hf₅ a ha
            have live : ∀ b o, h₃.get? b = some o → a ≠ b := fun b o e x => by rw [x, e] at q; cases q
            obtain ⟨oC, _, _, eC, _⟩ := hn₃
            obtain ⟨_, occ, ecc, _⟩ := hce₃
            obtain ⟨oL, _, _, eL, _⟩ := (frw _ _ F' hk₃').ns
            have nfp : a ∉ fp := fun hm => by
              obtain ⟨o, e⟩ := hlive _ _ hst₃ a hm
              exact live _ _ e rfl
            refine ⟨live _ _ hD₃, live _ _ eC, live _ _ ecc, live _ _ eL, nfp, ?_⟩
            cases e : s₂.heap.get? a with
            | none => rfl
            | some o =>
              have := hk₃' a o (fun hm => nfp (W.sub _ hm)) (hk' a o (fun hm => nfp (W.sub _ hm)) (live _ _ eL) e)
              rw [q] at this; cases this
          refine ⟨hObs _ _ _ _ hO₅ fun a ha o e => hs₆.extBut a o (nf a ha).1 e, nf⟩
    · obtain rfl : i = n := Nat.le_antisymm hi (Nat.not_lt.mp hlt)
      refine W.done _ _ _ hst' fun h₂ tk₂ hk₂ => ?_
      refine hRR _ _ h₂ tk₂ m' ys hyl (frw _ _ F' hk₂) (hk₂ _ _ hDw hD') (hn'.at' fun o e => hk₂ _ o hCw e) hC₀ hD₀ hCL hDL (Ne.symm hDC) (Nat.le_refl _) (by rw [hC]; exact Nat.le_succ _) (fun b o hb hbL e => hk₂ b o hb (hk' b o hb hbL e)) fun j y hj => ?_
      obtain ⟨ob, fr⟩ := hO' j y hj
      refine ⟨hObs _ _ _ _ ob fun a ha o e => hk₂ a o (fun q => (fr a ha).2.2.2.2.1 (W.sub _ q)) e, fun a ha => ?_⟩
      obtain ⟨a1, a2, ac, a3, a4, a5⟩ := fr a ha
      exact ⟨a1, a2, a3, fresh₀ _ a5, a5⟩
  exact codeAny_compStart_list (loop _ rfl) (hself _ _ _ hst₁ (loop _ rfl))
end
end
section
open PySem PySem.W PyProof.Rows PySem.Spec PySem.Calls
set_option linter.unusedVariables false
open PyProof.Rows.LCg (lst lst_snoc NsObj ns_obj)
section
variable {prog : Program} {w : World} {A : Around} {E : Value → Shared → Prop} {s : Shared} {h₀ : Heap} {L : Addr} {m : Str → Option Value} {env : Env}
def CTurnC (prog : Program) (w : World) (A : Around) (h₀ : Heap) (L : Addr) (m : Str → Option Value) (env : Env) (elt target : PySem.Expr) (scope : Scope) (cl : List (Str × Addr)) (x0 : Str) (s₂ : Shared) (n : Nat) (wr : List Addr) (P : Nat → Value → Heap → Prop) (Obs : Nat → Value → Heap → Prop) : Prop :=
  ∀ i v C cc h tk mC (E' : Value → Shared → Prop), i < n → P i v h → h.Ns C mC → (∃ v, h.IsCell cc v) → cc ≠ C → cc ≠ L → s₂.heap.objs.size ≤ cc → h₀.get? cc = none → C ≠ L → s₂.heap.objs.size ≤ C → h₀.get? C = none → C < h.objs.size → s₂.heap.objs.size ≤ h.objs.size →
      (∀ b o, b ∉ wr → b ≠ L → s₂.heap.get? b = some o → h.get? b = some o) → Fr h₀ L h m →
      wpAny (model prog w) A (assign target (compEnvC scope ((x0, cc) :: cl) C env) v) (fun _ s₃ => wpAny (model prog w) A (eval elt (compEnvC scope ((x0, cc) :: cl) C env)) (EltEndC h₀ L C cc m { s₂ with heap := h, toks := tk } (Obs i)) E' s₃) E' { s₂ with heap := h, toks := tk }
def CReadyC (prog : Program) (w : World) (A : Around) (h₀ : Heap) (L : Addr) (m : Str → Option Value) (mm : Addr → Str → Option Value) (env : Env) (elt target : PySem.Expr) (scope : Scope) (cl : List (Str × Addr)) (x0 : Str) (K : Addr → Shared → Prop) (it : Value) (s₂ : Shared) : Prop :=
  ∃ (z : Addr) (fp wr : List Addr) (n : Nat) (P Md : Nat → Value → Heap → Prop) (St : Nat → Heap → Prop) (Obs : Nat → Value → Heap → Prop), it = .ref z ∧ CIter prog w A h₀ L target z fp wr n P Md St s₂.heap ∧ ObsOk Obs ∧ Fr h₀ L s₂.heap m ∧
    CTurnC prog w A h₀ L m env elt target scope cl x0 s₂ n wr P Obs ∧ CFin h₀ L mm s₂ n wr Obs K
theorem assign_comp_c {elt target iter : PySem.Expr} {y : Str} {py : Pos} {scope : Scope} {cl : List (Str × Addr)} {pos spos : Pos} {Q : Flow → Shared → Prop} {x0 y0 z0 : Str} (_F : Fr h₀ L s.heap m) (hLe : env.locals = L)
    (hsw : swapsWith (.ListComp elt [⟨target, iter, [], 0⟩] scope pos) (some (.Name y py)) spos.line env = pure true)
    (hclos : closureFor scope env = pure cl) (hnm : scope.names = [(z0, .local), (x0, .cell), (y0, .free)]) (hkind : scope.kind = .function)
    (hnames : ∀ z ∈ scope.names, z.2 = .local → scope.names.lookup z.1 = some .local)
    (hy : env.kindOf y = some .local) (hp : (env.scope.kind == .class || (env.scope.kind == .module && env.locals != env.globals)) = false)
    (h : wpAny (model prog w) A (eval iter env) (fun xv s₁ => wpAny (model prog w) A (pyIter xv) (CReadyC prog w A h₀ L m (fun D z => if z = y then some (.ref D) else m z) env elt target scope cl x0 (fun _ s' => Q .next s')) E s₁) E s)
    (hs : ∀ x, foldedSetIterable iter env x = pure x := by intro _; rfl) :
    wpAny (model prog w) A (exec (.Assign [.Name y py] (.ListComp elt [⟨target, iter, [], 0⟩] scope pos) spos) env) Q E s := by
  subst hLe
  rw [exec_Assign_Name_used _ _ _ _ hsw]
  refine wpAny_bind (wpAny_standAt (wpAny_bind ?_))
  show wpAny _ A (do let _ ← comprehension (.ListComp elt [⟨target, iter, [], 0⟩] scope pos) scope env _ (newList []) false (eval iter env) (some (assign (.Name y py) env))) _ _ s
  refine wpAny_bind (wpAny_mono (wpAny_comprehension_free (use := some (assign (.Name y py) env)) (Q := fun _ s' => Q .next s') rfl hs hclos hkind hnames
    (wpAny_mono h (fun xv s₁ h₁ => wpAny_mono h₁ (fun it s₂ h₂ => ?_) fun _ _ e => e) fun _ _ e => e)) (fun _ s' hq => wpAny_pure (wpAny_pure hq)) fun _ _ e => e)
  obtain ⟨z, fp, wr, n, P, Md, St, Obs, rfl, I, ob, F, T, fin⟩ := h₂
  refine comp_blk_c Obs ob I.W I.live I.self I.small hnm hkind I.st I.lt F I.off I.new T ?_
  intro D C h tk mC ys hl F' hD hn hC₀ hD₀ hCL hDL hCD hDs hCs hk hO
  show wpAny _ A (assign (.Name y py) env (.ref D)) _ _ _
  refine wpAny_assign_Name (wpAny_storeName_local hy F'.ns (fun h₂ hn₂ hs₂ => ?_) hp)
  have hL₀ : h₀.get? env.locals = none := Heap.get?_none_of_le F'.above
  have F₂ : Fr h₀ env.locals h₂ (fun z => if z = y then some (.ref D) else m z) := ⟨hn₂, fun b o e => hs₂.extBut b o (fun q => by rw [q, hL₀] at e; cases e) (F'.keep b o e), F'.above⟩
  refine ⟨mC, hn.sameBut hs₂ hCL, fun h'' hs'' => fin D h'' _ ys hl (F₂.change hs'' hCL hC₀) (hs''.extBut _ _ (Ne.symm hCD) (hs₂.extBut _ _ hDL hD)) hD₀ hDL hDs (fun b o hb hbL e => hs''.extBut b o (fun q => ?_) (hs₂.extBut _ _ hbL (hk b o hb hbL e))) fun i y' hy' => ?_⟩
  · exact absurd (Heap.lt_size e) (Nat.not_lt.mpr (q ▸ hCs))
  · obtain ⟨a, b⟩ := hO i y' hy'
    refine ⟨ob _ _ _ _ a fun ad e o g => hs''.extBut ad o (b ad e).2.1 (hs₂.extBut ad o (b ad e).2.2.1 g), fun ad e => ?_⟩
    obtain ⟨c1, c2, c3, c4, c5⟩ := b ad e
    exact ⟨c1, c3, c4, c5⟩
end
end
section
open PySem PySem.W PyProof.Rows PySem.Spec PySem.Calls
set_option linter.unusedVariables false
open PyProof.Rows.LCg (lst lst_snoc NsObj ns_obj)
section
variable {prog : Program} {w : World} {A : Around} {E : Value → Shared → Prop} {s : Shared} {h₀ : Heap} {L : Addr} {m : Str → Option Value} {mm : Addr → Str → Option Value} {env : Env} {K : Addr → Shared → Prop}
theorem elt_end_c {gens : Array GenState} {drawn : Drawn} {os : OsState} {C cc : Addr} {oC oc : Obj} {v : Option Value} {m₂ : Str → Option Value} {h h' : Heap} {tk tk' : Nat} {all l : List (Addr × Obj)} {Obs : Value → Heap → Prop} {y : Value} (hA : All h₀ L h all) (hC : NsObj oC m₂) (hm : (C, oC) ∈ l) (hc : oc.data = .cell v) (hmc : (cc, oc) ∈ l) (F : Fr h₀ L h m) (F' : Fr h₀ L h' m) (N' : News h₀ L h' l) (sub : ∀ p ∈ all, p ∈ l)
    (ob : Obs y h') (nw : ∀ a, y = .ref a → h.get? a = none) : EltEndC h₀ L C cc m ⟨h, gens, drawn, tk, os⟩ Obs y ⟨h', gens, drawn, tk', os⟩ :=
  ⟨h', tk', m₂, rfl, F', hC.ns (N' _ hm).1, ⟨v, oc, (N' _ hmc).1, hc⟩, fun b o _ _ hbL e => hA.kept F' N' sub b o hbL e fun o' q => by have := F.keep b o' q; rw [e] at this; exact (Option.some.inj this).symm, ob, nw⟩
def EltWC (prog : Program) (w : World) (A : Around) (h₀ : Heap) (L : Addr) (m : Str → Option Value) (env : Env) (elt : PySem.Expr) (scope : Scope) (cl : List (Str × Addr)) (x0 : Str) (s : Shared) (news : List (Addr × Obj)) (Obs : Value → Heap → Prop) (v : Value) : Prop :=
  ∀ C oC m₂ cc oc h tk all (E' : Value → Shared → Prop), NsObj oC m₂ → oc.data = .cell (some v) → @Ne Nat C cc → (∀ p ∈ news, p.1 < C) → (∀ p ∈ news, p.1 < cc) → Fr h₀ L h m → News h₀ L h ((C, oC) :: (cc, oc) :: (news ++ all)) → All h₀ L h all →
    wpAny (model prog w) A (eval elt (compEnvC scope ((x0, cc) :: cl) C env)) (EltEndC h₀ L C cc m { s with heap := h, toks := tk } Obs) E' { s with heap := h, toks := tk }
theorem EltEndC.back {C cc : Addr} {h h₃ : Heap} {tk tk₃ : Nat} {Obs : Value → Heap → Prop} {y : Value} {s₅ : Shared} (x : EltEndC h₀ L C cc m { s with heap := h₃, toks := tk₃ } Obs y s₅) (hk : ∀ b o, b ≠ cc → h.get? b = some o → h₃.get? b = some o) (hC : ∃ o, h₃.get? cc = some o) : EltEndC h₀ L C cc m { s with heap := h, toks := tk } Obs y s₅ := by
  obtain ⟨h', tk', mC', rfl, F', hn', hcc', hk', ob, nw⟩ := x
  refine ⟨h', tk', mC', rfl, F', hn', hcc', fun b o hb hbc hbL e => hk' b o hb hbc hbL (hk _ _ hbc e), ob, fun a ha => ?_⟩
  have q := nw a ha
  dsimp only at q ⊢
  cases r : h.get? a with
  | none => rfl
  | some o =>
    by_cases e : a = cc
    · obtain ⟨o', e'⟩ := hC
      rw [e, e'] at q; cases q
    · rw [hk _ _ e r] at q; cases q
theorem turn_name_c {elt : PySem.Expr} {x : Str} {px : Pos} {scope : Scope} {cl : List (Str × Addr)} {news : List (Addr × Obj)} {xs : Array Value} {n : Nat} {Obs : Nat → Value → Heap → Prop} (hkind : (relabel scope env).kind = .function) (hx : (relabel scope env).names.lookup x = some .cell) (N : News h₀ L s.heap news)
    (W : ∀ i v, i < n → xs[i]? = some v → EltWC prog w A h₀ L m env elt scope cl x s news (Obs i) v) : CTurnC prog w A h₀ L m env elt (.Name x px) scope cl x s n [] (fun i v _ => xs[i]? = some v) Obs := by
  intro i v C cc h tk mC E' hi hp hn hce hccC hccL hccs hcc0 hCL hCs hC0 hCl hsz hkeep F
  obtain ⟨v0, hce⟩ := hce
  refine wpAny_assign_Name (wpAny_storeName_cell (c := cc) hkind hx (by show List.lookup x ((x, cc) :: cl) = some cc; simp) hce fun h₃ hv hs₃ => ?_)
  have hn₃ : h₃.Ns C mC := hn.sameBut hs₃ (Ne.symm hccC)
  obtain ⟨oC, eC, hoC⟩ := ns_obj hn₃
  obtain ⟨oc, ec, hoc⟩ := hv
  obtain ⟨all, hA⟩ := all_of h₀ h₃ L
  have hk₃ : ∀ b o, b ≠ cc → h.get? b = some o → h₃.get? b = some o := fun b o hb e => hs₃.extBut b o hb e
  have F₃ : Fr h₀ L h₃ m := ⟨F.ns.at' fun o e => hk₃ _ o (Ne.symm hccL) e, fun b o e => hk₃ b o (fun q => by rw [q, hcc0] at e; cases e) (F.keep b o e), F.above⟩
  have lt : ∀ p ∈ news, p.1 < C := fun p hp => Nat.lt_of_lt_of_le (Heap.lt_size (N p hp).1) hCs
  have ltc : ∀ p ∈ news, p.1 < cc := fun p hp => Nat.lt_of_lt_of_le (Heap.lt_size (N p hp).1) hccs
  have N₃ : News h₀ L h₃ ((C, oC) :: (cc, oc) :: (news ++ all)) := fun p hp => by
    rcases List.mem_cons.mp hp with rfl | hp
    · exact ⟨eC, hCL, hC0⟩
    · rcases List.mem_cons.mp hp with rfl | hp
      · exact ⟨ec, hccL, hcc0⟩
      · rcases List.mem_append.mp hp with hp | hp
        · exact ⟨hk₃ _ _ (Nat.ne_of_lt (ltc p hp)) (hkeep _ _ (by simp) (N p hp).2.1 (N p hp).1), (N p hp).2⟩
        · exact hA.news p hp
  exact wpAny_mono (W i v hi hp C oC mC cc oc h₃ _ all E' hoC hoc (Ne.symm hccC) lt ltc F₃ N₃ hA) (fun y s₅ h₅ => h₅.back hk₃ ⟨_, ec⟩) fun _ _ e => e
theorem CTurnC.up {elt target : PySem.Expr} {scope : Scope} {cl : List (Str × Addr)} {x0 : Str} {s₂ : Shared} {n : Nat} {wr : List Addr} {P P' : Nat → Value → Heap → Prop} {Obs : Nat → Value → Heap → Prop}
    (T : CTurnC prog w A h₀ L m env elt target scope cl x0 s n [] P Obs) (U : Up s s₂ wr) (hP : ∀ i v h, P' i v h → P i v h) : CTurnC prog w A h₀ L m env elt target scope cl x0 s₂ n wr P' Obs := by
  obtain ⟨⟨h', tk', rfl⟩, hk, hz, hw⟩ := U
  intro i v C cc h tk mC E' hi hp hn hce hccC hccL hccs hcc0 hCL hCs hC0 hCl hsz hkeep F
  refine T i v C cc h tk mC E' hi (hP _ _ _ hp) hn hce hccC hccL (Nat.le_trans hz hccs) hcc0 hCL (Nat.le_trans hz hCs) hC0 hCl (Nat.le_trans hz hsz) (fun b o _ hb e => hkeep b o (fun hm => ?_) hb (hk b o e)) F
  exact absurd (Heap.lt_size e) (Nat.not_lt.mpr (hw b hm))
theorem ready_src_c {elt target : PySem.Expr} {scope : Scope} {cl : List (Str × Addr)} {x0 : Str} {l : Addr} {xs : Array Value} {tup : Bool} (hh : A.handled = none) (F : Fr h₀ L s.heap m) (hs : SrcOk l xs tup s.heap) (hl : l ≠ L) (hsz : xs.size ≤ sizeLine)
    (Obs : Nat → Value → Heap → Prop) (hO : ObsOk Obs) (turn : CTurnC prog w A h₀ L m env elt target scope cl x0 s xs.size [] (fun i v _ => xs[i]? = some v) Obs) (fin : CFin h₀ L mm s xs.size [] Obs K) :
    wpAny (model prog w) A (pyIter (.ref l)) (CReadyC prog w A h₀ L m mm env elt target scope cl x0 K) E s := by
  have hlt := hs.lt
  have hne : l ≠ s.heap.objs.size := Nat.ne_of_lt hlt
  have hLs : L ≠ s.heap.objs.size := Nat.ne_of_lt F.ns.lt
  refine src_iter hs fun h' hz S hk => ?_
  have U : Up s { s with heap := h' } [s.heap.objs.size] := ⟨⟨h', s.toks, rfl⟩, hk, by show _ ≤ h'.objs.size; rw [hz]; exact Nat.le_succ _, fun b hb => by rw [List.mem_singleton.mp hb]; exact Nat.le_refl _⟩
  have lt2 : ∀ b ∈ [s.heap.objs.size, l], b < h'.objs.size := fun b hb => by
    simp only [List.mem_cons, List.not_mem_nil, or_false] at hb
    rcases hb with rfl | rfl
    · rw [hz]; exact Nat.lt_succ_self _
    · rw [hz]; exact Nat.lt_succ_of_lt hlt
  have off : L ∉ [s.heap.objs.size, l] := fun hb => by
    simp only [List.mem_cons, List.not_mem_nil, or_false] at hb
    rcases hb with e | e
    · exact hLs e
    · exact hl e.symm
  have nw : ∀ b ∈ [s.heap.objs.size], h₀.get? b = none := fun b hb => by rw [List.mem_singleton.mp hb]; exact new_none F (Nat.le_refl _)
  rcases S with ⟨e, a, b⟩ | ⟨e, a, b⟩
  · refine ⟨_, _, _, _, _, _, _, Obs, rfl, ⟨KTurns.ofWalks (Walks.tuple hh s.heap.objs.size l hne xs) fun i v s Q E st q => letGo_tupleiter st.1 q, ?_, fun s' Q E st q => (Walks.tuple hh s.heap.objs.size l hne xs).self 0 s' Q E st q, hsz, ⟨a, b⟩, lt2, off, nw⟩, hO, F.keeps hk, turn.up U fun i v h e => e, fin.up U⟩
    rintro i h ⟨⟨o, c, _⟩, ⟨o', c', _⟩⟩ b hb
    simp only [List.mem_cons, List.not_mem_nil, or_false] at hb
    rcases hb with rfl | rfl
    · exact ⟨_, c⟩
    · exact ⟨_, c'⟩
  · refine ⟨_, _, _, _, _, _, _, Obs, rfl, ⟨KTurns.ofWalks (Walks.list hh s.heap.objs.size l hne xs) fun i v s Q E st q => letGo_listiter st.1 q, ?_, fun s' Q E st q => (Walks.list hh s.heap.objs.size l hne xs).self 0 s' Q E st q, hsz, ⟨a, b⟩, lt2, off, nw⟩, hO, F.keeps hk, turn.up U fun i v h e => e, fin.up U⟩
    rintro i h ⟨⟨o, c, _⟩, ⟨o', c', _⟩⟩ b hb
    simp only [List.mem_cons, List.not_mem_nil, or_false] at hb
    rcases hb with rfl | rfl
    · exact ⟨_, c⟩
    · exact ⟨_, c'⟩
/-- a new list of three ints -/
def IsL3 (y : Value) (h : Heap) (v0 v1 v2 : Int) : Prop := ∃ a t0 t1 t2 k, y = .ref a ∧ h.get? a = some { cls := .type "list", data := .seq #[.int v0 t0, .int v1 t1, .int v2 t2] k }
def obsL (vs : List (Int × Int × Int)) : Nat → Value → Heap → Prop := fun i y h => IsL3 y h (vs.getD i default).1 (vs.getD i default).2.1 (vs.getD i default).2.2
theorem obsL_ok (vs : List (Int × Int × Int)) : ObsOk (obsL vs) := by
  rintro i y h h' ⟨a, t0, t1, t2, k, rfl, e⟩ hk
  exact ⟨a, t0, t1, t2, k, rfl, hk a rfl _ e⟩
theorem fin_two {news : List (Addr × Obj)} {v0 v1 v2 u0 u1 u2 : Int} (N : News h₀ L s.heap news)
    (k : ∀ D a b h tk t0 t1 t2 k1 r0 r1 r2 k2, Fr h₀ L h (mm D) → News h₀ L h ((D, lst [.ref a, .ref b]) :: (a, { cls := .type "list", data := .seq #[.int v0 t0, .int v1 t1, .int v2 t2] k1 }) :: (b, { cls := .type "list", data := .seq #[.int u0 r0, .int u1 r1, .int u2 r2] k2 }) :: news) → (∀ p ∈ news, p.1 < D) → (∀ p ∈ news, @Ne Nat p.1 a) → (∀ p ∈ news, @Ne Nat p.1 b) → @Ne Nat a D → @Ne Nat b D → K D { s with heap := h, toks := tk }) :
    CFin h₀ L mm s 2 [] (obsL [(v0, v1, v2), (u0, u1, u2)]) K := by
  intro D h tk ys hl F hD hD0 hDL hDs hk hO
  match ys, hl with
  | [y0, y1], _ =>
    obtain ⟨⟨a, t0, t1, t2, k1, rfl, ea⟩, fa⟩ := hO 0 y0 rfl
    obtain ⟨⟨b, r0, r1, r2, k2, rfl, eb⟩, fb⟩ := hO 1 y1 rfl
    obtain ⟨a1, a2, a3, a4⟩ := fa a rfl
    obtain ⟨b1, b2, b3, b4⟩ := fb b rfl
    have old : ∀ c, s.heap.get? c = none → ∀ p ∈ news, @Ne Nat p.1 c := fun c hc p hp q => by
      have q' : p.1 = c := q
      have e := (N p hp).1
      rw [q', hc] at e; cases e
    refine k D a b h tk t0 t1 t2 k1 r0 r1 r2 k2 F (fun p hp => ?_) (fun p hp => Nat.lt_of_lt_of_le (Heap.lt_size (N p hp).1) hDs) (old a a4) (old b b4) a1 b1
    rcases List.mem_cons.mp hp with rfl | hp
    · exact ⟨hD, hDL, hD0⟩
    · rcases List.mem_cons.mp hp with rfl | hp
      · exact ⟨ea, a2, a3⟩
      · rcases List.mem_cons.mp hp with rfl | hp
        · exact ⟨eb, b2, b3⟩
        · exact news_kept N hk p hp
end
end
section
open PySem PySem.W PyProof.Rows
open PyProof.Rows.LCg (lst NsObj)
set_option linter.unusedVariables false
theorem news_nil {h₀ h : Heap} {L : Addr} : News h₀ L h [] := fun _ hp => nomatch hp
theorem news_cons {h₀ h : Heap} {L : Addr} {p : Addr × Obj} {l l' : List (Addr × Obj)} (N : News h₀ L h l) (hm : p ∈ l) (N' : News h₀ L h l') : News h₀ L h (p :: l') := fun q hq => by
  rcases List.mem_cons.mp hq with rfl | hq
  · exact N _ hm
  · exact N' _ hq
theorem new_of_all {h₀ h h' : Heap} {L D : Addr} {o : Obj} {all l : List (Addr × Obj)} (hA : All h₀ L h all) (N' : News h₀ L h' ((D, o) :: l)) (lt : ∀ p ∈ l, p.1 < D) (sub : ∀ p ∈ all, p ∈ l) : h.get? D = none := by
  obtain ⟨_, b, c⟩ := N' _ (.head _)
  cases e : h.get? D with
  | none => rfl
  | some o' => exact absurd (lt _ (sub _ (hA.has D o' b e c))) (Nat.lt_irrefl _)
theorem sub_cons {p : Addr × Obj} {all l : List (Addr × Obj)} (h : ∀ q ∈ all, q ∈ l) : ∀ q ∈ all, q ∈ p :: l := fun q hq => List.mem_cons_of_mem _ (h q hq)
theorem sub_app {a all l : List (Addr × Obj)} (h : ∀ q ∈ all, q ∈ l) : ∀ q ∈ all, q ∈ a ++ l := fun q hq => List.mem_append_right _ (h q hq)
theorem look_have {K : Frag} {a : Addr} {o : Obj} {P : Prop} (h : K.lookup a = some o) (k : K.lookup a = some o → P) : P := k h
theorem look_have2 {K : Frag} {a : Addr} {o : Obj} {P : Prop} {g : Heap} (X : K.In g) (h : K.lookup a = some o) (k : K.lookup a = some o → P) : P := k h
structure FigOk (r0 r1 r2 m2 m3 o1 o2 o3 : Int) : Prop where
  b1 : -1000000 ≤ r1 - r0
  b1' : r1 - r0 < 1000000
  f1 : Fits ((r1 - r0) * o1)
  b2 : -1000000 ≤ r2 - r0
  b2' : r2 - r0 < 1000000
  f2 : Fits ((r2 - r0) * o2)
  f3 : Fits ((r2 - r0) * o2 - (r1 - r0) * o1 % m2)
  b3 : -1000000 ≤ (r2 - r0) * o2 - (r1 - r0) * o1 % m2
  b3' : (r2 - r0) * o2 - (r1 - r0) * o1 % m2 < 1000000
  f4 : Fits (((r2 - r0) * o2 - (r1 - r0) * o1 % m2) * o3)
structure Sml (x : Int) : Prop where
  lo : 0 < x
  hi : x < 1000000
theorem figures_k {w : World} {mean : ExcName → Option Value} {mg mb : Str → Option Value} {l : CbLed} {a1 a2 a3 : Addr} {r0 r1 r2 m1 m2 m3 o1 o2 o3 : Int} {t0 t1 t2 s0 s1 s2 u0 u1 u2 : Tok} {k1 k2 k3 : Nat}
    (h1 : (a1, l3 r0 r1 r2 t0 t1 t2 k1) ∈ l) (h2 : (a2, tup3 m1 m2 m3 s0 s1 s2 k2) ∈ l) (h3 : (a3, l3 o1 o2 o3 u0 u1 u2 k3) ∈ l) (G : FigOk r0 r1 r2 m2 m3 o1 o2 o3) (S2 : Sml m2) (S3 : Sml m3) (O1 : Sml o1) (O2 : Sml o2) (O3 : Sml o3) :
    ClmL w mean mg mb 24 253 l [.ref a1, .ref a2, .ref a3] r0 ((r1 - r0) * o1 % m2) (((r2 - r0) * o2 - (r1 - r0) * o1 % m2) * o3 % m3) := by
  have := O1.lo; have := O2.lo; have := O3.lo
  exact figures_c w mean mg mb l a1 a2 a3 r0 r1 r2 m1 m2 m3 o1 o2 o3 t0 t1 t2 s0 s1 s2 u0 u1 u2 k1 k2 k3 h1 h2 h3 G.b1 G.b1' (by omega) O1.hi G.f1 S2.lo S2.hi G.b2 G.b2' (by omega) O2.hi G.f2 G.f3 G.b3 G.b3' (by omega) O3.hi G.f4 S3.lo S3.hi
theorem ClmL.use {w : World} {mean : ExcName → Option Value} {mg mb : Str → Option Value} {R : Nat} {f : Addr} {news : CbLed} {vs : List Value} {v0 v1 v2 : Int} {dp un : Nat} {gd : Option (List Code)} {cn : Str} {cs : Scope} {a : Addr} {ccd : Value} {cl : List (Str × Addr)} {outer : List Env} {A₀ : Around} {base h₀ : Heap} {L : Addr} {m : Str → Option Value} {s : Shared} {Q E : Value → Shared → Prop}
    (C : ClmL w mean mg mb R f news vs v0 v1 v2) (B : Below A₀ base outer h₀) (F : Fr h₀ L s.heap m) (X : (Mine.k0.heap_1 w.params).In h₀) (N : News h₀ L s.heap news) (T : Top Mine.view loose0 mean mg mb h₀) (hk : cs.kind = .function)
    (room : Room dp un R) (ret : ∀ D k t0 t1 t2 h' tk', Fr h₀ L h' m → News h₀ L h' ((D, l3 v0 v1 v2 t0 t1 t2 k) :: news) → (∀ p ∈ news, p.1 < D) → Q (.ref D) { s with heap := h', toks := tk' }) :
    wpAny (model prog0 w) (ktrTop dp un gd cn cs L a ccd cl outer) (call (.ref f) vs) Q E s := C _ _ _ _ _ _ _ _ _ _ _ _ _ _ _ _ _ B F X N T hk room ret
structure SumOk (r0 r1 r2 p0 p1 p2 m v : Int) : Prop where
  b0 : -1000000 ≤ r0
  b0' : r0 < 1000000
  b1 : -1000000 ≤ r1
  b1' : r1 < 1000000
  b2 : -1000000 ≤ r2
  b2' : r2 < 1000000
  f0 : Fits (r0 * p0)
  f1 : Fits (r1 * p1)
  f2 : Fits (r2 * p2)
  g0 : Fits (0 + r0 * p0)
  g1 : Fits (0 + r0 * p0 + r1 * p1)
  g2 : Fits (0 + r0 * p0 + r1 * p1 + r2 * p2)
  e : Int.tmod (0 + r0 * p0 + r1 * p1 + r2 * p2) m = v
theorem sum_told_k {w : World} {mean : ExcName → Option Value} {mg mb : Str → Option Value} {l : CbLed} {a1 a2 : Addr} {r0 r1 r2 p0 p1 p2 m v : Int} {t0 t1 t2 s0 s1 s2 tm : Tok} {k1 k2 : Nat}
    (h1 : (a1, l3 r0 r1 r2 t0 t1 t2 k1) ∈ l) (h2 : (a2, l3 p0 p1 p2 s0 s1 s2 k2) ∈ l) (G : SumOk r0 r1 r2 p0 p1 p2 m v) (S : Sml m) (P0 : Sml p0) (P1 : Sml p1) (P2 : Sml p2) :
    Clm w mean mg mb 20 246 l [.ref a1, .ref a2, .int m tm] (fun t => .int v t) := by
  have := P0.lo; have := P1.lo; have := P2.lo
  have h := sum_told_c w mean mg mb l a1 a2 r0 r1 r2 p0 p1 p2 m t0 t1 t2 s0 s1 s2 tm k1 k2 h1 h2 G.b0 G.b0' G.b1 G.b1' G.b2 G.b2' (by omega) P0.hi (by omega) P1.hi (by omega) P2.hi G.f0 G.f1 G.f2 G.g0 G.g1 G.g2 S.lo S.hi (tmod_fits S.lo S.hi)
  rw [G.e] at h
  exact h
end
section
open PySem PySem.W PyProof.Rows
set_option linter.unusedVariables false
structure Nng (x : Int) : Prop where
  lo : 0 ≤ x
  hi : x < 1000000
structure OpFacts (x0 x1 x2 y0 y1 y2 m1 m2 m3 p1 p2 p3 v0 v1 v2 fn : Int) : Prop where
  f0 : Fits v0
  f1 : Fits v1
  f2 : Fits v2
  ff : Fits fn
  e0 : Int.tmod v0 m1 = Int.tmod fn m1
  e1 : Int.tmod v1 m2 = Int.tmod fn m2
  e2 : Int.tmod v2 m3 = Int.tmod fn m3
  sum : SumOk (Int.tmod v0 m1) (Int.tmod v1 m2) (Int.tmod v2 m3) p1 p2 p3 (m1 * m2 * m3) (fn.fmod (m1 * m2 * m3))
structure Late8 (x0 x1 x2 y0 y1 y2 m1 m2 m3 p1 p2 p3 n1 n2 : Int) : Prop where
  bx0 : Nng x0
  bx1 : Nng x1
  bx2 : Nng x2
  by0 : Nng y0
  by1 : Nng y1
  by2 : Nng y2
  add : OpFacts x0 x1 x2 y0 y1 y2 m1 m2 m3 p1 p2 p3 (x0 + y0) (x1 + y1) (x2 + y2) (n1 + n2)
  mul : OpFacts x0 x1 x2 y0 y1 y2 m1 m2 m3 p1 p2 p3 (x0 * y0) (x1 * y1) (x2 * y2) (n1 * n2)
structure Late7 (x0 x1 x2 y0 y1 y2 f0 f1 f2 g0 g1 g2 m1 m2 m3 p1 p2 p3 n1 n2 : Int) : Prop where
  cmp : (if f2 == g2 then (if f1 == g1 then (if f0 == g0 then false else decide (f0 < g0)) else decide (f1 < g1)) else decide (f2 < g2)) = decide (n1 < n2)
  l8 : Late8 x0 x1 x2 y0 y1 y2 m1 m2 m3 p1 p2 p3 n1 n2
structure Late6 (x0 x1 x2 y0 y1 y2 f0 f1 f2 g0 g1 g2 m1 m2 m3 p1 p2 p3 n1 n2 : Int) : Prop where
  bf0 : Nng f0
  bf1 : Nng f1
  bf2 : Nng f2
  bg0 : Nng g0
  bg1 : Nng g1
  bg2 : Nng g2
  sx : SumOk x0 x1 x2 p1 p2 p3 (m1 * m2 * m3) n1
  sy : SumOk y0 y1 y2 p1 p2 p3 (m1 * m2 * m3) n2
  ex : f0 + m1 * f1 + m1 * m2 * f2 = n1
  ey : g0 + m1 * g1 + m1 * m2 * g2 = n2
  l7 : Late7 x0 x1 x2 y0 y1 y2 f0 f1 f2 g0 g1 g2 m1 m2 m3 p1 p2 p3 n1 n2
abbrev fg1 (r0 r1 o1 m2 : Int) : Int := (r1 - r0) * o1 % m2
abbrev fg2 (r0 r1 r2 o1 o2 o3 m2 m3 : Int) : Int := ((r2 - r0) * o2 - (r1 - r0) * o1 % m2) * o3 % m3
structure Late5 (x0 x1 x2 y0 y1 y2 m1 m2 m3 o1 o2 o3 p1 p2 p3 n1 n2 : Int) : Prop where
  gx : FigOk x0 x1 x2 m2 m3 o1 o2 o3
  gy : FigOk y0 y1 y2 m2 m3 o1 o2 o3
  l6 : Late6 x0 x1 x2 y0 y1 y2 x0 (fg1 x0 x1 o1 m2) (fg2 x0 x1 x2 o1 o2 o3 m2 m3) y0 (fg1 y0 y1 o1 m2) (fg2 y0 y1 y2 o1 o2 o3 m2 m3) m1 m2 m3 p1 p2 p3 n1 n2
structure SmlM (m1 m2 m3 o1 o2 o3 p1 p2 p3 n1 n2 : Int) : Prop where
  sm1 : Sml m1
  sm2 : Sml m2
  sm3 : Sml m3
  so1 : Sml o1
  so2 : Sml o2
  so3 : Sml o3
  sp1 : Sml p1
  sp2 : Sml p2
  sp3 : Sml p3
  sw : Sml (m1 * m2 * m3)
  bn1 : Nng n1
  bn2 : Nng n2
theorem Sml.fits {x : Int} (h : Sml x) : Fits x := ⟨by have := h.lo; omega, by have := h.hi; omega⟩
theorem Nng.fits {x : Int} (h : Nng x) : Fits x := ⟨by have := h.lo; omega, by have := h.hi; omega⟩
theorem bne_no {a b : Int} (h : a = b) : ¬ ((a != b) = true) := by simp [h]
theorem bne_noB {a b : Bool} (h : a = b) : ¬ ((a != b) = true) := by simp [h]
theorem isl {h₀ h : Heap} {L a : Addr} {news : List (Addr × Obj)} {xs : Array Value} {k : Nat} (N : News h₀ L h news) (hm : (a, ({ cls := .type "list", data := .seq xs k } : Obj)) ∈ news) : h.IsList a xs := ⟨_, (N _ hm).1, rfl, _, rfl⟩
theorem by_news {h₀ h : Heap} {L : Addr} {l l' : List (Addr × Obj)} (N : News h₀ L h l) (hs : ∀ p ∈ l', p ∈ l) : News h₀ L h l' := fun p hp => N p (hs p hp)
theorem mul_smL {a b : Int} (h : Sml a) : IntMulOk a b := IntMulOk.of_left (intBits_le_64 (by have := h.lo; omega) (by have := h.hi; omega))
theorem mul_ngR {a b : Int} (h : Nng b) : IntMulOk a b := IntMulOk.of_right (intBits_le_64 (by have := h.lo; omega) (by have := h.hi; omega))
theorem map_put6 {m : Str → Option Value} {a b c d e f : Str} {va vb vc vd ve vf : Value} (ha : m a = some va) (hb : m b = some vb) (hc : m c = some vc) (hd : m d = some vd) (he : m e = some ve) (hf : m f = some vf) : m = fun y => if y = a then some va else if y = b then some vb else if y = c then some vc else if y = d then some vd else if y = e then some ve else if y = f then some vf else m y := by
  funext y
  by_cases ka : y = a
  · rw [if_pos ka, ka, ha]
  rw [if_neg ka]
  by_cases kb : y = b
  · rw [if_pos kb, kb, hb]
  rw [if_neg kb]
  by_cases kc : y = c
  · rw [if_pos kc, kc, hc]
  rw [if_neg kc]
  by_cases kd : y = d
  · rw [if_pos kd, kd, hd]
  rw [if_neg kd]
  by_cases ke : y = e
  · rw [if_pos ke, ke, he]
  rw [if_neg ke]
  by_cases kf : y = f
  · rw [if_pos kf, kf, hf]
  rw [if_neg kf]
theorem map_put3 {m : Str → Option Value} {a b c : Str} {va vb vc : Value} (ha : m a = some va) (hb : m b = some vb) (hc : m c = some vc) : m = fun y => if y = a then some va else if y = b then some vb else if y = c then some vc else m y := by
  funext y
  by_cases ka : y = a
  · rw [if_pos ka, ka, ha]
  rw [if_neg ka]
  by_cases kb : y = b
  · rw [if_pos kb, kb, hb]
  rw [if_neg kb]
  by_cases kc : y = c
  · rw [if_pos kc, kc, hc]
  rw [if_neg kc]
end
section
open PySem PySem.W PyProof.Rows PySem.Spec PySem.Calls
set_option linter.unusedVariables false
section
open PySem.AutoSeq1 (wpAny_loadPart')
open PySem.MeetsSeq PySem.MeetsSeq3
/-- two lists of ints in the heap -/
abbrev TwoL (l b : Addr) (items items2 : Array Value) (n n2 : Nat) (dd dd2 : Option Addr) (sl sl2 : Array (Option Value)) (s : Shared) : Prop :=
  s.heap.get? l = some { cls := .type "list", dict := dd, data := .seq items n, slots := sl } ∧ s.heap.get? b = some { cls := .type "list", dict := dd2, data := .seq items2 n2, slots := sl2 }
theorem lt_loop_end (l b : Addr) (items items2 : Array Value) (n n2 : Nat) (dd dd2 : Option Addr) (sl sl2 : Array (Option Value)) (hsz : items.size = items2.size) (i : Nat) (hi : items.size ≤ i) :
    Meets (Builtin.«list.__eq__.loop» ⟨[.ref l, .ref b, rawInt i, rawInt 0], []⟩)
      (fun A R s => s.heap.get? l = some { cls := .type "list", dict := dd, data := .seq items n, slots := sl } ∧ s.heap.get? b = some { cls := .type "list", dict := dd2, data := .seq items2 n2, slots := sl2 } ∧ R (.ok (.ret (.bool false))) s) := by
  intro prog w A R s h
  obtain ⟨hp, g, d, tk, os⟩ := s; obtain ⟨hl, hb, h⟩ := h
  wp_walk using wpAny_loadPart' hl, wpAny_loadPart' hb
  have hi1 : items[((i : Nat) : Int).toNat]? = none := by simp; omega
  have hi2 : items2[((i : Nat) : Int).toNat]? = none := by simp; omega
  rw [hi1, hi2]
  wp_walk using wpAny_loadPart' hl, wpAny_loadPart' hb
  show R (.ok (.ret (.bool (decide (items.size < items2.size))))) _
  rw [hsz, decide_eq_false (Nat.lt_irrefl _)]
  exact h
theorem lt_loop_step (l b : Addr) (items items2 : Array Value) (n n2 : Nat) (dd dd2 : Option Addr) (sl sl2 : Array (Option Value)) (i : Nat) (x y : Int) (tx ty : Tok) (hx : items[i]? = some (.int x tx)) (hy : items2[i]? = some (.int y ty)) (c : Bool)
    (ih : Meets (Builtin.«list.__eq__.loop» ⟨[.ref l, .ref b, rawInt ((i + 1 : Nat) : Int), rawInt 0], []⟩)
      (fun A R s => s.heap.get? l = some { cls := .type "list", dict := dd, data := .seq items n, slots := sl } ∧ s.heap.get? b = some { cls := .type "list", dict := dd2, data := .seq items2 n2, slots := sl2 } ∧ R (.ok (.ret (.bool c))) s)) :
    Meets (Builtin.«list.__eq__.loop» ⟨[.ref l, .ref b, rawInt i, rawInt 0], []⟩)
      (fun A R s => s.heap.get? l = some { cls := .type "list", dict := dd, data := .seq items n, slots := sl } ∧ s.heap.get? b = some { cls := .type "list", dict := dd2, data := .seq items2 n2, slots := sl2 } ∧ R (.ok (.ret (.bool (if x == y then c else decide (x < y))))) s) := by
  intro prog w A R s h
  obtain ⟨hp, g, d, tk, os⟩ := s; obtain ⟨hl, hb, h⟩ := h
  wp_walk using wpAny_loadPart' hl, wpAny_loadPart' hb
  have hi1 : items[((i : Nat) : Int).toNat]? = some (.int x tx) := by simpa using hx
  have hi2 : items2[((i : Nat) : Int).toNat]? = some (.int y ty) := by simpa using hy
  have hc : ((i : Int) + 1) = ((i + 1 : Nat) : Int) := by push_cast; rfl
  rw [hi1, hi2]
  refine wpAny_bind (EqGives.int x y tx ty prog w _ _ _ _ ?_)
  cases hb' : (x == y) with
  | true =>
    rw [hb'] at h
    wp_walk
    rw [hc]
    exact ⟨plainId_quiet plain_eq_loop _, codeAny_builtin entry_eq_loop (by
      rw [Around.under_plainId plain_eq_loop _]
      exact ih prog w A R _ ⟨hl, hb, by simpa using h⟩)⟩
  | false =>
    rw [hb'] at h
    wp_walk using wpAny_loadPart' hl, wpAny_loadPart' hb
    rw [hi1, hi2]
    dsimp only
    refine wpAny_bind (wpAny_lt_int ?_)
    wp_walk
    simpa using h
theorem list_lt3 (l b : Addr) (a0 a1 a2 b0 b1 b2 : Int) (t0 t1 t2 u0 u1 u2 : Tok) (n n2 : Nat) (dd dd2 : Option Addr) (sl sl2 : Array (Option Value)) :
    Meets (Builtin.«list.__lt__» ⟨[.ref l, .ref b], []⟩)
      (fun A R s => s.heap.get? l = some { cls := .type "list", dict := dd, data := .seq #[.int a0 t0, .int a1 t1, .int a2 t2] n, slots := sl } ∧ s.heap.get? b = some { cls := .type "list", dict := dd2, data := .seq #[.int b0 u0, .int b1 u1, .int b2 u2] n2, slots := sl2 } ∧ R (.ok (.ret (.bool (if a0 == b0 then (if a1 == b1 then (if a2 == b2 then false else decide (a2 < b2)) else decide (a1 < b1)) else decide (a0 < b0))))) s) := by
  intro prog w A R s h
  obtain ⟨hp, g, d, tk, os⟩ := s; obtain ⟨hl, hb, h⟩ := h
  have f3 := AutoSeq1.sub_list_list
  have h3 := lt_loop_end l b #[.int a0 t0, .int a1 t1, .int a2 t2] #[.int b0 u0, .int b1 u1, .int b2 u2] n n2 dd dd2 sl sl2 rfl 3 (Nat.le_refl _)
  have h2 := lt_loop_step l b #[.int a0 t0, .int a1 t1, .int a2 t2] #[.int b0 u0, .int b1 u1, .int b2 u2] n n2 dd dd2 sl sl2 2 a2 b2 t2 u2 rfl rfl _ h3
  have h1 := lt_loop_step l b #[.int a0 t0, .int a1 t1, .int a2 t2] #[.int b0 u0, .int b1 u1, .int b2 u2] n n2 dd dd2 sl sl2 1 a1 b1 t1 u1 rfl rfl _ h2
  have h0 := lt_loop_step l b #[.int a0 t0, .int a1 t1, .int a2 t2] #[.int b0 u0, .int b1 u1, .int b2 u2] n n2 dd dd2 sl sl2 0 a0 b0 t0 u0 rfl rfl _ h1
  wp_walk using wpAny_loadPart' hl, wpAny_loadPart' hb
  exact ⟨plainId_quiet plain_eq_loop _, codeAny_builtin entry_eq_loop (by
    rw [Around.under_plainId plain_eq_loop _]
    exact h0 prog w A R _ ⟨hl, hb, h⟩)⟩
theorem lists_lt3 {prog : Program} {w : World} {A : Around} {E : Value → Shared → Prop} {s : Shared} {l b : Addr} {a0 a1 a2 b0 b1 b2 : Int} {t0 t1 t2 u0 u1 u2 : Tok} {Q : Value → Shared → Prop}
    (hl : s.heap.IsList l #[.int a0 t0, .int a1 t1, .int a2 t2]) (hb : s.heap.IsList b #[.int b0 u0, .int b1 u1, .int b2 u2]) (hu : A.units < cLine)
    (h : Q (.bool (if a0 == b0 then (if a1 == b1 then (if a2 == b2 then false else decide (a2 < b2)) else decide (a1 < b1)) else decide (a0 < b0))) s) :
    wpAny (model prog w) A (compareOp .Lt (.ref l) (.ref b)) Q E s := by
  obtain ⟨⟨cls, dd, data, sl⟩, ho, hc, n, hd⟩ := id hl
  obtain ⟨⟨cls2, dd2, data2, sl2⟩, ho2, hc2, n2, hd2⟩ := id hb
  simp only at hc hd hc2 hd2
  subst hc hd hc2 hd2
  show wpAny _ _ (richCompare .Lt (.ref l) (.ref b)) Q E s
  exact richCompare_meets_room (op := .Lt) ⟨_, ho, rfl⟩ ⟨_, ho2, rfl⟩ F.slot_list_lt F.entry_list_lt (F.args_list_lt_2 _ _) (list_lt3 l b a0 a1 a2 b0 b1 b2 t0 t1 t2 u0 u1 u2 n n2 dd dd2 sl sl2)
    ⟨ho, ho2, (fun x => nomatch x), h⟩ hu
end
end
section
open PySem PySem.W PyProof.Rows PySem.Spec PySem.Calls
set_option linter.unusedVariables false
section
variable {prog : Program} {w : World} {A : Around} {E : Value → Shared → Prop} {s : Shared} {h₀ : Heap} {m : Str → Option Value} {env : Env}
/-- what a turn of a for over a tuple gives, where the for's name is a cell -/
def ForEndC (h₀ : Heap) (L : Addr) (cc : Addr) (adr : List Addr) (own : List (Addr × Obj)) (J : (Str → Option Value) → List (Addr × Obj) → Prop) (s₁ : Shared) (Q : Flow → Shared → Prop) (f : Flow) (s₂ : Shared) : Prop :=
  match f with
  | .ret v => Q (.ret v) s₂
  | .next => ∃ h' tk' m' oc c rest, s₂ = { s₁ with heap := h', toks := tk' } ∧ Fr h₀ L h' m' ∧ News h₀ L h' ((cc, oc) :: (rest ++ own)) ∧ oc.data = .cell c ∧ (∀ p ∈ rest, p.1 ∈ adr) ∧ J m' rest
  | _ => False
theorem turns_cell {body : List Stmt} {Q : Flow → Shared → Prop} {x : Str} {px : Pos} {cc l : Addr} {xs : Array Value} {n : Nat} {oc : Obj} {c0 : Option Value} {rest : List (Addr × Obj)} (J : Nat → (Str → Option Value) → List (Addr × Obj) → Prop)
    (hh : A.handled = none) (F : Fr h₀ env.locals s.heap m) (N : News h₀ env.locals s.heap ((cc, oc) :: rest)) (hoc : oc.data = .cell c0) (hcr : ∀ p ∈ rest, p.1 ≠ cc)
    (hs : SrcOk l xs true s.heap) (hl : l ≠ env.locals) (hlc : l ≠ cc) (h0l : h₀.get? l = none) (hn : xs.size = n) (hsz : n ≤ sizeLine)
    (hkind : env.scope.kind = .function) (hx : env.kindOf x = some .cell) (hcell : env.cells.lookup x = some cc) (hj : J 0 m rest)
    (turn : ∀ (I : Addr) (oI oT : Obj) i v m₁ oc₁ rest₁ h tk, (∀ p ∈ (cc, oc) :: rest, p.1 < I) → l < I → i < n → xs[i]? = some v → oc₁.data = .cell (some v) → J i m₁ rest₁ → (∀ p ∈ rest₁, p.1 ∈ rest.map (·.1)) → Fr h₀ env.locals h m₁ → News h₀ env.locals h ((cc, oc₁) :: (rest₁ ++ [(I, oI), (l, oT)])) →
      wpAny (model prog w) A (execs body env) (ForEndC h₀ env.locals cc (rest.map (·.1)) [(I, oI), (l, oT)] (J (i + 1)) { s with heap := h, toks := tk } Q) E { s with heap := h, toks := tk })
    (done : ∀ m₁ oc₁ c rest₁ h tk, J n m₁ rest₁ → oc₁.data = .cell c → Fr h₀ env.locals h m₁ → News h₀ env.locals h ((cc, oc₁) :: rest₁) → Q .next { s with heap := h, toks := tk }) :
    wpAny (model prog w) A (pyIter (.ref l)) (fun it s₂ => TurnsAt prog w A h₀ env (.Name x px) body Q E it s₂) E s := by
  have hlt := hs.lt
  have hne : l ≠ s.heap.objs.size := Nat.ne_of_lt hlt
  have hLs : env.locals ≠ s.heap.objs.size := Nat.ne_of_lt F.ns.lt
  have hcs : cc < s.heap.objs.size := Heap.lt_size (N _ (.head _)).1
  have hrs : ∀ p ∈ (cc, oc) :: rest, p.1 < s.heap.objs.size := fun p hp => Heap.lt_size (N p hp).1
  have hI0 : h₀.get? s.heap.objs.size = none := new_none F (Nat.le_refl _)
  refine src_iter hs fun h' hz S hk => ?_
  rcases S with ⟨e, a, b⟩ | ⟨e, a, b⟩
  · refine ⟨_, _, _, _, _, _, _, m, (cc, oc) :: rest, (fun i m₁ nw => ∃ oc₁ c rest₁, nw = (cc, oc₁) :: rest₁ ∧ oc₁.data = .cell c ∧ (∀ p ∈ rest₁, p.1 ∈ rest.map (·.1)) ∧ J i m₁ rest₁), rfl, KTurns.ofWalks (Walks.tuple hh s.heap.objs.size l hne xs) fun i v s Q E st q => letGo_tupleiter st.1 q, ?_, ?_, ?_, ⟨a, b⟩, F.keeps hk, N.grown hk, ⟨oc, c0, rest, rfl, hoc, fun p hp => List.mem_map_of_mem hp, hj⟩, ?_, ?_⟩
    · intro hb
      simp only [List.mem_cons, List.not_mem_nil, or_false] at hb
      rcases hb with e | e
      · exact hLs e
      · exact hl e.symm
    · intro b hb
      rw [List.mem_singleton.mp hb]; exact hI0
    · intro p hp hb
      have h1 := hrs p hp
      rw [List.mem_singleton.mp hb] at h1
      exact Nat.lt_irrefl _ h1
    · rintro i v m₁ nw h1 tk1 own hi hP ⟨oc₁, c, rest₁, rfl, hoc₁, hadr, hJ⟩ hoff hown hget hall hst F₁ N₁
      obtain ⟨⟨oI, eI, _⟩, ⟨oT, eT, _⟩⟩ := hst
      have Ncc := N₁ _ (List.mem_append_right own (List.mem_cons_self))
      have rne : ∀ p ∈ rest₁, p.1 ≠ cc := fun p hp => by
        obtain ⟨q, hq, e⟩ := List.mem_map.mp (hadr p hp)
        rw [← e]; exact hcr q hq
      have hIc : s.heap.objs.size ≠ cc := Nat.ne_of_gt hcs
      refine wpAny_assign_Name (wpAny_storeName_cell (c := cc) hkind hx hcell ⟨_, Ncc.1, hoc₁⟩ fun h2 hv hs2 => ?_)
      obtain ⟨oc₂, ec, hoc₂⟩ := hv
      have F₂ : Fr h₀ env.locals h2 m₁ := ⟨F₁.ns.at' fun o e => hs2.extBut _ o (Ne.symm Ncc.2.1) e, fun b o e => hs2.extBut b o (fun q => by rw [q, Ncc.2.2] at e; cases e) (F₁.keep b o e), F₁.above⟩
      have N₂ : News h₀ env.locals h2 ((cc, oc₂) :: (rest₁ ++ [(s.heap.objs.size, oI), (l, oT)])) := fun p hp => by
        rcases List.mem_cons.mp hp with rfl | hp
        · exact ⟨ec, Ncc.2⟩
        · rcases List.mem_append.mp hp with hp | hp
          · have q := N₁ p (List.mem_append_right own (List.mem_cons_of_mem _ hp))
            exact ⟨hs2.extBut _ _ (rne p hp) q.1, q.2⟩
          · rcases List.mem_cons.mp hp with rfl | hp
            · exact ⟨hs2.extBut _ _ hIc eI, Ne.symm hLs, hI0⟩
            · rw [List.mem_singleton.mp hp]
              exact ⟨hs2.extBut _ _ hlc eT, hl, h0l⟩
      refine wpAny_mono (turn s.heap.objs.size oI oT i v m₁ oc₂ rest₁ h2 tk1 hrs hlt (hn ▸ hi) hP hoc₂ hJ hadr F₂ N₂) (fun f s₃ h₃ => ?_) fun _ _ e => e
      cases f with
      | ret v => exact .ret h₃
      | brk => exact h₃.elim
      | cont => exact h₃.elim
      | next =>
        obtain ⟨h3, tk3, m3, oc3, c3, rest3, rfl, F₃, N₃, hoc3, hadr3, hJ3⟩ := h₃
        refine .next ⟨rfl, h3, tk3, m3, (cc, oc3) :: rest3, rfl, F₃, fun p hp => ?_, fun p hp hb => ?_, oc3, c3, rest3, rfl, hoc3, hadr3, hJ3⟩
        · rcases List.mem_append.mp hp with hp | hp
          · have g := hget p hp
            have fpm := hown p hp
            simp only [List.mem_cons, List.not_mem_nil, or_false] at fpm
            rcases fpm with q | q
            · have e2 : p = (s.heap.objs.size, oI) := by
                rw [q, eI] at g
                exact Prod.ext q (Option.some.inj g).symm
              rw [e2]
              exact N₃ _ (List.mem_cons_of_mem _ (List.mem_append_right _ (.head _)))
            · have e2 : p = (l, oT) := by
                rw [q, eT] at g
                exact Prod.ext q (Option.some.inj g).symm
              rw [e2]
              exact N₃ _ (List.mem_cons_of_mem _ (List.mem_append_right _ (.tail _ (.head _))))
          · rcases List.mem_cons.mp hp with rfl | hp
            · exact N₃ _ (.head _)
            · exact N₃ _ (List.mem_cons_of_mem _ (List.mem_append_left _ hp))
        · have hb' := List.mem_singleton.mp hb
          rcases List.mem_cons.mp hp with rfl | hp
          · exact hIc hb'.symm
          · obtain ⟨q, hq, e⟩ := List.mem_map.mp (hadr3 p hp)
            have := hrs q (List.mem_cons_of_mem _ hq)
            rw [e, hb'] at this
            exact Nat.lt_irrefl _ this
    · rintro h1 tk1 m1 nw F₁ N₁ _ ⟨oc₁, c, rest₁, rfl, hoc₁, hadr, hJ⟩
      exact done m1 oc₁ c rest₁ h1 tk1 (hn ▸ hJ) hoc₁ F₁ N₁
  · cases e
end
end
section
open PySem PySem.W PyProof.Rows PySem.Spec PySem.Calls
set_option linter.unusedVariables false
structure OpOk (w : World) (mean : ExcName → Option Value) (mg mb : Str → Option Value) (os : Str) (a b v : Int) : Prop where
  c : ∀ (news : CbLed) (t1 t2 t3 : Tok), Clm w mean mg mb 14 227 news [.int a t1, .str os t2, .int b t3] (fun t => .int v t)
theorem OpOk.at {w : World} {mean : ExcName → Option Value} {mg mb : Str → Option Value} {os : Str} {a b v : Int} {news : CbLed} {t1 t2 t3 : Tok} (h : OpOk w mean mg mb os a b v) : Clm w mean mg mb 14 227 news [.int a t1, .str os t2, .int b t3] (fun t => .int v t) := h.c news t1 t2 t3
theorem op_add {w : World} {mean : ExcName → Option Value} {mg mb : Str → Option Value} {a b : Int} (h : Fits (a + b)) : OpOk w mean mg mb (Str.ofString "+") a b (a + b) := ⟨fun news t1 t2 t3 => two_add w mean mg mb news a b h t1 t2 t3⟩
theorem op_mul {w : World} {mean : ExcName → Option Value} {mg mb : Str → Option Value} {a b : Int} (ha : Nng a) (hb : Nng b) (h : Fits (a * b)) : OpOk w mean mg mb (Str.ofString "*") a b (a * b) :=
  ⟨fun news t1 t2 t3 => two_mul w mean mg mb news a b (by have := ha.lo; omega) ha.hi (by have := hb.lo; omega) hb.hi h t1 t2 t3⟩
theorem trip3 {R : Nat → Value → Value → Value → Prop} {p0 p1 p2 q0 q1 q2 r0 r1 r2 : Value} (w0 : R 0 p0 q0 r0) (w1 : R 1 p1 q1 r1) (w2 : R 2 p2 q2 r2) : ∀ i x1 x2 x3, i < 3 → (#[p0, p1, p2] : Array Value)[i]? = some x1 → (#[q0, q1, q2] : Array Value)[i]? = some x2 → (#[r0, r1, r2] : Array Value)[i]? = some x3 → R i x1 x2 x3 := by
  intro i x1 x2 x3 hi g1 g2 g3
  match i, hi with
  | 0, _ => cases (show some p0 = some x1 from g1); cases (show some q0 = some x2 from g2); cases (show some r0 = some x3 from g3); exact w0
  | 1, _ => cases (show some p1 = some x1 from g1); cases (show some q1 = some x2 from g2); cases (show some r1 = some x3 from g3); exact w1
  | 2, _ => cases (show some p2 = some x1 from g1); cases (show some q2 = some x2 from g2); cases (show some r2 = some x3 from g3); exact w2
theorem eltw_gen {prog : Program} {w : World} {A : Around} {h₀ : Heap} {L : Addr} {m : Str → Option Value} {env : Env} {elt : PySem.Expr} {scope : Scope} {cl : List (Str × Addr)} {s : Shared} {news : List (Addr × Obj)} {Obs : Value → Heap → Prop} {bind : (Str → Option Value) → Prop}
    (h : ∀ (m : Str → Option Value) (s : Shared), EltW prog w A h₀ L m env elt scope cl s news Obs bind) : EltW prog w A h₀ L m env elt scope cl s news Obs bind := h m s
section
variable {prog : Program} {w : World} {A : Around} {E : Value → Shared → Prop} {s : Shared}
theorem lists_ne3 {l b : Addr} {a0 a1 a2 b0 b1 b2 : Int} {t0 t1 t2 u0 u1 u2 : Tok} {Q : Value → Shared → Prop}
    (hl : s.heap.IsList l #[.int a0 t0, .int a1 t1, .int a2 t2]) (hb : s.heap.IsList b #[.int b0 u0, .int b1 u1, .int b2 u2]) (hu : A.units < cLine)
    (e0 : a0 = b0) (e1 : a1 = b1) (e2 : a2 = b2) (h : Q (.bool false) s) :
    wpAny (model prog w) A (compareOp .NotEq (.ref l) (.ref b)) Q E s := by
  subst e0 e1 e2
  show wpAny _ _ (richCompare .NotEq (.ref l) (.ref b)) Q E s
  refine PySem.SeqAt.RcNeAt.lists (e := fun _ => true) hl hb rfl hu (fun j h1 h2 => ?_) prog w E Q ?_
  · match j, h1 with
    | 0, _ => have := PySem.SeqAt.EqAt.int_int (A := A.in1) (s := s) a0 t0 a0 u0; rw [beq_self_eq_true] at this; exact this
    | 1, _ => have := PySem.SeqAt.EqAt.int_int (A := A.in1) (s := s) a1 t1 a1 u1; rw [beq_self_eq_true] at this; exact this
    | 2, _ => have := PySem.SeqAt.EqAt.int_int (A := A.in1) (s := s) a2 t2 a2 u2; rw [beq_self_eq_true] at this; exact this
  · exact h
end
end
section
open PySem PySem.W PyProof.Rows PySem.Spec PySem.Calls
set_option linter.unusedVariables false
structure Menu (m1 m2 m3 i1 i2 i3 o1 o2 o3 : Int) : Prop where
  a1 : 0 < m1
  a1' : m1 < 1000
  a2 : 0 < m2
  a2' : m2 < 1000
  a3 : 0 < m3
  a3' : m3 < 1000
  aw : 0 < m1 * m2 * m3
  aw' : m1 * m2 * m3 < 1000000
  v1 : ivRun 12 ((m1 * m2 * m3).fdiv m1) 1 0 m1 0 1 ((m1 * m2 * m3).fdiv m1) m1 = some i1
  v2 : ivRun 12 ((m1 * m2 * m3).fdiv m2) 1 0 m2 0 1 ((m1 * m2 * m3).fdiv m2) m2 = some i2
  v3 : ivRun 12 ((m1 * m2 * m3).fdiv m3) 1 0 m3 0 1 ((m1 * m2 * m3).fdiv m3) m3 = some i3
  v4 : ivRun 12 m1 1 0 m2 0 1 m1 m2 = some o1
  v5 : ivRun 12 m1 1 0 m3 0 1 m1 m3 = some o2
  v6 : ivRun 12 m2 1 0 m3 0 1 m2 m3 = some o3
  w1 : Sml ((m1 * m2 * m3).fdiv m1)
  w2 : Sml ((m1 * m2 * m3).fdiv m2)
  w3 : Sml ((m1 * m2 * m3).fdiv m3)
  i1 : Sml i1
  i2 : Sml i2
  i3 : Sml i3
  o1 : Sml o1
  o2 : Sml o2
  o3 : Sml o3
end
section
open PySem PySem.W PyProof.Rows PySem.Spec PySem.Calls
set_option linter.unusedVariables false

theorem mulb {a b : Int} (h1 : 0 ≤ a) (h2 : a < 1000) (h3 : 0 ≤ b) (h4 : b < 1000) : 0 ≤ a * b ∧ a * b < 1000000 := by
  refine ⟨Int.mul_nonneg h1 h3, ?_⟩
  have h5 : a * b ≤ 999 * b := Int.mul_le_mul_of_nonneg_right (by omega) h3
  omega
theorem tm {a : Int} (b : Int) (h : 0 ≤ a) : Int.tmod a b = a % b := Int.tmod_eq_emod_of_nonneg h
def inF (x : Int) : Bool := decide (-2147483648 ≤ x) && decide (x < 2147483648)
def inM (x : Int) : Bool := decide (-1000000 ≤ x) && decide (x < 1000000)
def inN (x m : Int) : Bool := decide (0 ≤ x) && decide (x < m)
theorem inF_of {x : Int} (h : inF x = true) : Fits x := by
  have := (Bool.and_eq_true _ _).mp h
  exact ⟨of_decide_eq_true this.1, of_decide_eq_true this.2⟩
theorem inM_of {x : Int} (h : inM x = true) : -1000000 ≤ x ∧ x < 1000000 := by
  have := (Bool.and_eq_true _ _).mp h
  exact ⟨of_decide_eq_true this.1, of_decide_eq_true this.2⟩
theorem inN_of {x m : Int} (h : inN x m = true) : 0 ≤ x ∧ x < m := by
  have := (Bool.and_eq_true _ _).mp h
  exact ⟨of_decide_eq_true this.1, of_decide_eq_true this.2⟩
/-- all that is asked of the figures r0 r1 r2 of a number n -/
def chk (m1 m2 m3 o1 o2 o3 p1 p2 p3 n r0 r1 r2 f1 f2 : Int) : Bool :=
  (inM (r1 - r0) && inF ((r1 - r0) * o1) && inM (r2 - r0) && inF ((r2 - r0) * o2) && inF ((r2 - r0) * o2 - f1) && inM ((r2 - r0) * o2 - f1) && inF (((r2 - r0) * o2 - f1) * o3)) &&
  (inN r0 m1 && inN r1 m2 && inN r2 m3 && inN f1 m2 && inN f2 m3 && decide (r0 + m1 * f1 + m1 * m2 * f2 = n)) &&
  (inF (r0 * p1) && inF (r1 * p2) && inF (r2 * p3) && inF (0 + r0 * p1) && inF (0 + r0 * p1 + r1 * p2) && inF (0 + r0 * p1 + r1 * p2 + r2 * p3) && decide (Int.tmod (0 + r0 * p1 + r1 * p2 + r2 * p3) (m1 * m2 * m3) = n))
def chkN (m1 m2 m3 o1 o2 o3 p1 p2 p3 n : Int) : Bool := chk m1 m2 m3 o1 o2 o3 p1 p2 p3 n (n % m1) (n % m2) (n % m3) (fg1 (n % m1) (n % m2) o1 m2) (fg2 (n % m1) (n % m2) (n % m3) o1 o2 o3 m2 m3)
structure OneOk (m1 m2 m3 o1 o2 o3 p1 p2 p3 n r0 r1 r2 f1 f2 : Int) : Prop where
  fig : FigOk r0 r1 r2 m2 m3 o1 o2 o3
  hr0 : 0 ≤ r0 ∧ r0 < m1
  hr1 : 0 ≤ r1 ∧ r1 < m2
  hr2 : 0 ≤ r2 ∧ r2 < m3
  hf1 : 0 ≤ f1 ∧ f1 < m2
  hf2 : 0 ≤ f2 ∧ f2 < m3
  e : r0 + m1 * f1 + m1 * m2 * f2 = n
  sum : SumOk r0 r1 r2 p1 p2 p3 (m1 * m2 * m3) n
theorem and7 {a b c d e f g : Bool} (h : (a && b && c && d && e && f && g) = true) : a = true ∧ b = true ∧ c = true ∧ d = true ∧ e = true ∧ f = true ∧ g = true := by
  obtain ⟨h, q7⟩ := (Bool.and_eq_true _ _).mp h
  obtain ⟨h, q6⟩ := (Bool.and_eq_true _ _).mp h
  obtain ⟨h, q5⟩ := (Bool.and_eq_true _ _).mp h
  obtain ⟨h, q4⟩ := (Bool.and_eq_true _ _).mp h
  obtain ⟨h, q3⟩ := (Bool.and_eq_true _ _).mp h
  obtain ⟨q1, q2⟩ := (Bool.and_eq_true _ _).mp h
  exact ⟨q1, q2, q3, q4, q5, q6, q7⟩
theorem one_of {m1 m2 m3 o1 o2 o3 p1 p2 p3 n r0 r1 r2 f2 : Int} (b1 : m1 < 1000) (b2 : m2 < 1000) (b3 : m3 < 1000) (h : chk m1 m2 m3 o1 o2 o3 p1 p2 p3 n r0 r1 r2 ((r1 - r0) * o1 % m2) f2 = true) : OneOk m1 m2 m3 o1 o2 o3 p1 p2 p3 n r0 r1 r2 ((r1 - r0) * o1 % m2) f2 := by
  obtain ⟨h, hs⟩ := (Bool.and_eq_true _ _).mp h
  obtain ⟨hf, hr⟩ := (Bool.and_eq_true _ _).mp h
  obtain ⟨x1, x2, x3, x4, x5, x6, x7⟩ := and7 hf
  obtain ⟨y1, y2, y3, y4, y5, y6, _⟩ := and7 (g := true) (by rw [Bool.and_true]; exact hr)
  obtain ⟨z1, z2, z3, z4, z5, z6, z7⟩ := and7 hs
  have s1 := inN_of y1
  have s2 := inN_of y2
  have s3 := inN_of y3
  exact ⟨⟨(inM_of x1).1, (inM_of x1).2, inF_of x2, (inM_of x3).1, (inM_of x3).2, inF_of x4, inF_of x5, (inM_of x6).1, (inM_of x6).2, inF_of x7⟩, s1, s2, s3, inN_of y4, inN_of y5, of_decide_eq_true y6,
    ⟨by omega, by omega, by omega, by omega, by omega, by omega, inF_of z1, inF_of z2, inF_of z3, inF_of z4, inF_of z5, inF_of z6, of_decide_eq_true z7⟩⟩
theorem lex {m a b x y : Int} (a0 : 0 ≤ a) (am : a < m) (b0 : 0 ≤ b) (bm : b < m) : a + m * x < b + m * y ↔ (x < y ∨ (x = y ∧ a < b)) := by
  have m0 : 0 ≤ m := by omega
  rcases Int.lt_trichotomy x y with h | h | h
  · have := Int.mul_le_mul_of_nonneg_left (show x + 1 ≤ y from h) m0
    rw [Int.mul_add, Int.mul_one] at this
    exact ⟨fun _ => .inl h, fun _ => by omega⟩
  · subst h
    exact ⟨fun q => .inr ⟨rfl, by omega⟩, fun q => by rcases q with q | q <;> omega⟩
  · have := Int.mul_le_mul_of_nonneg_left (show y + 1 ≤ x from h) m0
    rw [Int.mul_add, Int.mul_one] at this
    exact ⟨fun q => absurd q (by omega), fun q => by rcases q with q | q <;> omega⟩
theorem cmp_of {m1 m2 f0 f1 f2 g0 g1 g2 n1 n2 : Int} (a0 : 0 ≤ f0 ∧ f0 < m1) (a1 : 0 ≤ f1 ∧ f1 < m2) (c0 : 0 ≤ g0 ∧ g0 < m1) (c1 : 0 ≤ g1 ∧ g1 < m2)
    (ex : f0 + m1 * f1 + m1 * m2 * f2 = n1) (ey : g0 + m1 * g1 + m1 * m2 * g2 = n2) :
    (if f2 == g2 then (if f1 == g1 then (if f0 == g0 then false else decide (f0 < g0)) else decide (f1 < g1)) else decide (f2 < g2)) = decide (n1 < n2) := by
  rw [Int.add_assoc, Int.mul_assoc, ← Int.mul_add] at ex ey
  have l1 := lex (x := f1 + m2 * f2) (y := g1 + m2 * g2) a0.1 a0.2 c0.1 c0.2
  have l2 := lex (x := f2) (y := g2) a1.1 a1.2 c1.1 c1.2
  have l3 := lex (x := g2) (y := f2) c1.1 c1.2 a1.1 a1.2
  rw [ex, ey] at l1
  generalize f1 + m2 * f2 = h1 at l1 l2 l3
  generalize g1 + m2 * g2 = h2 at l1 l2 l3
  clear ex ey
  simp only [beq_iff_eq]
  split
  · rename_i e2
    have l2 := l2.trans ⟨fun q => (q.resolve_left (e2 ▸ Int.lt_irrefl _)).2, fun q => .inr ⟨e2, q⟩⟩
    have l3 := l3.trans ⟨fun q => (q.resolve_left (e2 ▸ Int.lt_irrefl _)).2, fun q => .inr ⟨e2.symm, q⟩⟩
    split
    · rename_i e1
      have e : h1 = h2 := Int.le_antisymm (Int.not_lt.mp fun q => Int.lt_irrefl _ (e1 ▸ l3.mp q)) (Int.not_lt.mp fun q => Int.lt_irrefl _ (e1 ▸ l2.mp q))
      have l1 := l1.trans ⟨fun q => (q.resolve_left (e ▸ Int.lt_irrefl _)).2, fun q => .inr ⟨e, q⟩⟩
      split
      · rename_i e0
        exact (decide_eq_false fun q => Int.lt_irrefl _ (e0 ▸ l1.mp q)).symm
      · exact decide_eq_decide.mpr l1.symm
    · rename_i e1
      refine decide_eq_decide.mpr ⟨fun q => l1.mpr (.inl (l2.mpr q)), fun q => ?_⟩
      rcases l1.mp q with q | q
      · exact l2.mp q
      · rcases Int.lt_or_gt_of_ne e1 with k | k
        · exact k
        · exact absurd (l3.mpr k) (q.1 ▸ Int.lt_irrefl _)
  · rename_i e2
    refine decide_eq_decide.mpr ⟨fun q => l1.mpr (.inl (l2.mpr (.inl q))), fun q => ?_⟩
    rcases l1.mp q with q | q
    · rcases l2.mp q with q | q
      · exact q
      · exact absurd q.1 e2
    · rcases Int.lt_or_gt_of_ne e2 with k | k
      · exact k
      · exact absurd (l3.mpr (.inl k)) (q.1 ▸ Int.lt_irrefl _)
theorem op_of {m1 m2 m3 o1 o2 o3 p1 p2 p3 x0 x1 x2 y0 y1 y2 v0 v1 v2 fn : Int} (W : ∀ n, 0 ≤ n → n < m1 * m2 * m3 → OneOk m1 m2 m3 o1 o2 o3 p1 p2 p3 n (n % m1) (n % m2) (n % m3) (fg1 (n % m1) (n % m2) o1 m2) (fg2 (n % m1) (n % m2) (n % m3) o1 o2 o3 m2 m3)) (w0 : 0 < m1 * m2 * m3)
    (a0 : 0 ≤ v0 ∧ v0 < 2000000) (a1 : 0 ≤ v1 ∧ v1 < 2000000) (a2 : 0 ≤ v2 ∧ v2 < 2000000) (af : 0 ≤ fn ∧ fn < 2000000)
    (c0 : v0 % m1 = fn % m1) (c1 : v1 % m2 = fn % m2) (c2 : v2 % m3 = fn % m3) : OpFacts x0 x1 x2 y0 y1 y2 m1 m2 m3 p1 p2 p3 v0 v1 v2 fn := by
  have F : ∀ {a : Int}, 0 ≤ a ∧ a < 2000000 → Fits a := fun h => ⟨by omega, by omega⟩
  have s := (W (fn % (m1 * m2 * m3)) (Int.emod_nonneg _ (Int.ne_of_gt w0)) (Int.emod_lt_of_pos _ w0)).sum
  rw [Int.emod_emod_of_dvd _ ⟨m2 * m3, Int.mul_assoc ..⟩, Int.emod_emod_of_dvd _ ⟨m1 * m3, by rw [Int.mul_comm m1 m2, Int.mul_assoc]⟩, Int.emod_emod_of_dvd _ ⟨m1 * m2, Int.mul_comm ..⟩, ← c0, ← c1, ← c2, ← tm _ a0.1, ← tm _ a1.1, ← tm _ a2.1, ← Int.fmod_eq_emod_of_nonneg _ (Int.le_of_lt w0)] at s
  exact ⟨F a0, F a1, F a2, F af, by rw [tm _ a0.1, tm _ af.1, c0], by rw [tm _ a1.1, tm _ af.1, c1], by rw [tm _ a2.1, tm _ af.1, c2], s⟩
theorem late_of {m1 m2 m3 o1 o2 o3 p1 p2 p3 : Int} (b1 : m1 < 1000) (b2 : m2 < 1000) (b3 : m3 < 1000) (w0 : 0 < m1 * m2 * m3) (w1 : m1 * m2 * m3 < 1000) (hc : ∀ n : Int, 0 ≤ n → n < m1 * m2 * m3 → chkN m1 m2 m3 o1 o2 o3 p1 p2 p3 n = true)
    (S : ∀ n1 n2, Nng n1 → Nng n2 → SmlM m1 m2 m3 o1 o2 o3 p1 p2 p3 n1 n2) (n1 n2 : Int) (a1 : 0 ≤ n1) (a1' : n1 < m1 * m2 * m3) (a2 : 0 ≤ n2) (a2' : n2 < m1 * m2 * m3) :
    SmlM m1 m2 m3 o1 o2 o3 p1 p2 p3 n1 n2 ∧ Late5 (Int.tmod n1 m1) (Int.tmod n1 m2) (Int.tmod n1 m3) (Int.tmod n2 m1) (Int.tmod n2 m2) (Int.tmod n2 m3) m1 m2 m3 o1 o2 o3 p1 p2 p3 n1 n2 := by
  refine ⟨S n1 n2 ⟨a1, by omega⟩ ⟨a2, by omega⟩, ?_⟩
  rw [tm m1 a1, tm m2 a1, tm m3 a1, tm m1 a2, tm m2 a2, tm m3 a2]
  have W : ∀ n, 0 ≤ n → n < m1 * m2 * m3 → OneOk m1 m2 m3 o1 o2 o3 p1 p2 p3 n (n % m1) (n % m2) (n % m3) (fg1 (n % m1) (n % m2) o1 m2) (fg2 (n % m1) (n % m2) (n % m3) o1 o2 o3 m2 m3) := fun n h h' => one_of b1 b2 b3 (hc n h h')
  have x := W n1 a1 a1'
  have y := W n2 a2 a2'
  have N : ∀ {z m : Int}, 0 ≤ z ∧ z < m → m < 1000 → Nng z := fun h k => ⟨h.1, by omega⟩
  have A : ∀ {a b m m' : Int}, 0 ≤ a ∧ a < m → 0 ≤ b ∧ b < m' → m < 1000 → m' < 1000 → 0 ≤ a + b ∧ a + b < 2000000 := fun h k q q' => ⟨by omega, by omega⟩
  have Mu : ∀ {a b m m' : Int}, 0 ≤ a ∧ a < m → 0 ≤ b ∧ b < m' → m < 1000 → m' < 1000 → 0 ≤ a * b ∧ a * b < 2000000 := fun h k q q' => ⟨(mulb h.1 (by omega) k.1 (by omega)).1, by have := (mulb h.1 (by omega) k.1 (by omega)).2; omega⟩
  exact ⟨x.fig, y.fig, N x.hr0 b1, N x.hf1 b2, N x.hf2 b3, N y.hr0 b1, N y.hf1 b2, N y.hf2 b3, x.sum, y.sum, x.e, y.e, cmp_of x.hr0 x.hf1 y.hr0 y.hf1 x.e y.e, N x.hr0 b1, N x.hr1 b2, N x.hr2 b3, N y.hr0 b1, N y.hr1 b2, N y.hr2 b3,
    op_of W w0 (A x.hr0 y.hr0 b1 b1) (A x.hr1 y.hr1 b2 b2) (A x.hr2 y.hr2 b3 b3) (A ⟨a1, a1'⟩ ⟨a2, a2'⟩ w1 w1) (Int.add_emod n1 n2 m1).symm (Int.add_emod n1 n2 m2).symm (Int.add_emod n1 n2 m3).symm,
    op_of W w0 (Mu x.hr0 y.hr0 b1 b1) (Mu x.hr1 y.hr1 b2 b2) (Mu x.hr2 y.hr2 b3 b3) (Mu ⟨a1, a1'⟩ ⟨a2, a2'⟩ w1 w1) (Int.mul_emod n1 n2 m1).symm (Int.mul_emod n1 n2 m2).symm (Int.mul_emod n1 n2 m3).symm⟩
noncomputable def allN (f : Int → Bool) : Nat → Bool
  | 0 => true
  | k + 1 => f (k : Int) && allN f k
theorem allN_of {f : Int → Bool} : ∀ {k : Nat}, allN f k = true → ∀ n : Int, 0 ≤ n → n < (k : Int) → f n = true
  | 0, _, n, h0, h1 => absurd h1 (by omega)
  | k + 1, h, n, h0, h1 => by
    have h := (Bool.and_eq_true _ _).mp h
    by_cases e : n = (k : Int)
    · rw [e]; exact h.1
    · exact allN_of h.2 n h0 (by omega)
def smlB (x : Int) : Bool := decide (0 < x) && decide (x < 1000000)
theorem smlB_of {x : Int} (h : smlB x = true) : Sml x := by
  have := (Bool.and_eq_true _ _).mp h
  exact ⟨of_decide_eq_true this.1, of_decide_eq_true this.2⟩
def smlAll (m1 m2 m3 o1 o2 o3 p1 p2 p3 w : Int) : Bool := (smlB m1 && smlB m2 && smlB m3 && smlB o1 && smlB o2 && smlB o3 && true) && (smlB p1 && smlB p2 && smlB p3 && smlB w && true && true && true)
theorem sml_of {m1 m2 m3 o1 o2 o3 p1 p2 p3 : Int} (h : smlAll m1 m2 m3 o1 o2 o3 p1 p2 p3 (m1 * m2 * m3) = true) (n1 n2 : Int) (k1 : Nng n1) (k2 : Nng n2) : SmlM m1 m2 m3 o1 o2 o3 p1 p2 p3 n1 n2 := by
  have h := (Bool.and_eq_true _ _).mp h
  obtain ⟨x1, x2, x3, x4, x5, x6, _⟩ := and7 h.1
  obtain ⟨y1, y2, y3, y4, _⟩ := and7 h.2
  exact ⟨smlB_of x1, smlB_of x2, smlB_of x3, smlB_of x4, smlB_of x5, smlB_of x6, smlB_of y1, smlB_of y2, smlB_of y3, smlB_of y4, k1, k2⟩

theorem menu0 : Menu 3 5 7 2 1 1 2 5 3 := by
  refine ⟨?_, ?_, ?_, ?_, ?_, ?_, ?_, ?_, ?_, ?_, ?_, ?_, ?_, ?_, smlB_of ?_, smlB_of ?_, smlB_of ?_, smlB_of ?_, smlB_of ?_, smlB_of ?_, smlB_of ?_, smlB_of ?_, smlB_of ?_⟩ <;> decide +kernel
theorem all0 : allN (chkN 3 5 7 2 5 3 ((3 * 5 * 7 : Int).fdiv 3 * 2) ((3 * 5 * 7 : Int).fdiv 5 * 1) ((3 * 5 * 7 : Int).fdiv 7 * 1)) 105 = true := by decide +kernel
theorem full0 : ∀ n1 n2 : Int, 0 ≤ n1 → n1 < 3 * 5 * 7 → 0 ≤ n2 → n2 < 3 * 5 * 7 →
    SmlM 3 5 7 2 5 3 ((3 * 5 * 7 : Int).fdiv 3 * 2) ((3 * 5 * 7 : Int).fdiv 5 * 1) ((3 * 5 * 7 : Int).fdiv 7 * 1) n1 n2 ∧ Late5 (Int.tmod n1 3) (Int.tmod n1 5) (Int.tmod n1 7) (Int.tmod n2 3) (Int.tmod n2 5) (Int.tmod n2 7) 3 5 7 2 5 3 ((3 * 5 * 7 : Int).fdiv 3 * 2) ((3 * 5 * 7 : Int).fdiv 5 * 1) ((3 * 5 * 7 : Int).fdiv 7 * 1) n1 n2 :=
  late_of (by decide) (by decide) (by decide) (by decide) (by decide) (allN_of all0) (sml_of (by decide +kernel))

theorem menu1 : Menu 4 5 9 1 1 5 4 7 2 := by
  refine ⟨?_, ?_, ?_, ?_, ?_, ?_, ?_, ?_, ?_, ?_, ?_, ?_, ?_, ?_, smlB_of ?_, smlB_of ?_, smlB_of ?_, smlB_of ?_, smlB_of ?_, smlB_of ?_, smlB_of ?_, smlB_of ?_, smlB_of ?_⟩ <;> decide +kernel
theorem all1 : allN (chkN 4 5 9 4 7 2 ((4 * 5 * 9 : Int).fdiv 4 * 1) ((4 * 5 * 9 : Int).fdiv 5 * 1) ((4 * 5 * 9 : Int).fdiv 9 * 5)) 180 = true := by decide +kernel
theorem full1 : ∀ n1 n2 : Int, 0 ≤ n1 → n1 < 4 * 5 * 9 → 0 ≤ n2 → n2 < 4 * 5 * 9 →
    SmlM 4 5 9 4 7 2 ((4 * 5 * 9 : Int).fdiv 4 * 1) ((4 * 5 * 9 : Int).fdiv 5 * 1) ((4 * 5 * 9 : Int).fdiv 9 * 5) n1 n2 ∧ Late5 (Int.tmod n1 4) (Int.tmod n1 5) (Int.tmod n1 9) (Int.tmod n2 4) (Int.tmod n2 5) (Int.tmod n2 9) 4 5 9 4 7 2 ((4 * 5 * 9 : Int).fdiv 4 * 1) ((4 * 5 * 9 : Int).fdiv 5 * 1) ((4 * 5 * 9 : Int).fdiv 9 * 5) n1 n2 :=
  late_of (by decide) (by decide) (by decide) (by decide) (by decide) (allN_of all1) (sml_of (by decide +kernel))

theorem menu2 : Menu 5 7 8 1 3 3 3 5 7 := by
  refine ⟨?_, ?_, ?_, ?_, ?_, ?_, ?_, ?_, ?_, ?_, ?_, ?_, ?_, ?_, smlB_of ?_, smlB_of ?_, smlB_of ?_, smlB_of ?_, smlB_of ?_, smlB_of ?_, smlB_of ?_, smlB_of ?_, smlB_of ?_⟩ <;> decide +kernel
theorem all2 : allN (chkN 5 7 8 3 5 7 ((5 * 7 * 8 : Int).fdiv 5 * 1) ((5 * 7 * 8 : Int).fdiv 7 * 3) ((5 * 7 * 8 : Int).fdiv 8 * 3)) 280 = true := by decide +kernel
theorem full2 : ∀ n1 n2 : Int, 0 ≤ n1 → n1 < 5 * 7 * 8 → 0 ≤ n2 → n2 < 5 * 7 * 8 →
    SmlM 5 7 8 3 5 7 ((5 * 7 * 8 : Int).fdiv 5 * 1) ((5 * 7 * 8 : Int).fdiv 7 * 3) ((5 * 7 * 8 : Int).fdiv 8 * 3) n1 n2 ∧ Late5 (Int.tmod n1 5) (Int.tmod n1 7) (Int.tmod n1 8) (Int.tmod n2 5) (Int.tmod n2 7) (Int.tmod n2 8) 5 7 8 3 5 7 ((5 * 7 * 8 : Int).fdiv 5 * 1) ((5 * 7 * 8 : Int).fdiv 7 * 3) ((5 * 7 * 8 : Int).fdiv 8 * 3) n1 n2 :=
  late_of (by decide) (by decide) (by decide) (by decide) (by decide) (allN_of all2) (sml_of (by decide +kernel))

theorem menu3 : Menu 7 9 11 1 2 7 4 8 5 := by
  refine ⟨?_, ?_, ?_, ?_, ?_, ?_, ?_, ?_, ?_, ?_, ?_, ?_, ?_, ?_, smlB_of ?_, smlB_of ?_, smlB_of ?_, smlB_of ?_, smlB_of ?_, smlB_of ?_, smlB_of ?_, smlB_of ?_, smlB_of ?_⟩ <;> decide +kernel
theorem all3 : allN (chkN 7 9 11 4 8 5 ((7 * 9 * 11 : Int).fdiv 7 * 1) ((7 * 9 * 11 : Int).fdiv 9 * 2) ((7 * 9 * 11 : Int).fdiv 11 * 7)) 693 = true := by decide +kernel
theorem full3 : ∀ n1 n2 : Int, 0 ≤ n1 → n1 < 7 * 9 * 11 → 0 ≤ n2 → n2 < 7 * 9 * 11 →
    SmlM 7 9 11 4 8 5 ((7 * 9 * 11 : Int).fdiv 7 * 1) ((7 * 9 * 11 : Int).fdiv 9 * 2) ((7 * 9 * 11 : Int).fdiv 11 * 7) n1 n2 ∧ Late5 (Int.tmod n1 7) (Int.tmod n1 9) (Int.tmod n1 11) (Int.tmod n2 7) (Int.tmod n2 9) (Int.tmod n2 11) 7 9 11 4 8 5 ((7 * 9 * 11 : Int).fdiv 7 * 1) ((7 * 9 * 11 : Int).fdiv 9 * 2) ((7 * 9 * 11 : Int).fdiv 11 * 7) n1 n2 :=
  late_of (by decide) (by decide) (by decide) (by decide) (by decide) (allN_of all3) (sml_of (by decide +kernel))

theorem menu4 : Menu 5 11 13 2 10 9 9 8 6 := by
  refine ⟨?_, ?_, ?_, ?_, ?_, ?_, ?_, ?_, ?_, ?_, ?_, ?_, ?_, ?_, smlB_of ?_, smlB_of ?_, smlB_of ?_, smlB_of ?_, smlB_of ?_, smlB_of ?_, smlB_of ?_, smlB_of ?_, smlB_of ?_⟩ <;> decide +kernel
theorem all4 : allN (chkN 5 11 13 9 8 6 ((5 * 11 * 13 : Int).fdiv 5 * 2) ((5 * 11 * 13 : Int).fdiv 11 * 10) ((5 * 11 * 13 : Int).fdiv 13 * 9)) 715 = true := by decide +kernel
theorem full4 : ∀ n1 n2 : Int, 0 ≤ n1 → n1 < 5 * 11 * 13 → 0 ≤ n2 → n2 < 5 * 11 * 13 →
    SmlM 5 11 13 9 8 6 ((5 * 11 * 13 : Int).fdiv 5 * 2) ((5 * 11 * 13 : Int).fdiv 11 * 10) ((5 * 11 * 13 : Int).fdiv 13 * 9) n1 n2 ∧ Late5 (Int.tmod n1 5) (Int.tmod n1 11) (Int.tmod n1 13) (Int.tmod n2 5) (Int.tmod n2 11) (Int.tmod n2 13) 5 11 13 9 8 6 ((5 * 11 * 13 : Int).fdiv 5 * 2) ((5 * 11 * 13 : Int).fdiv 11 * 10) ((5 * 11 * 13 : Int).fdiv 13 * 9) n1 n2 :=
  late_of (by decide) (by decide) (by decide) (by decide) (by decide) (allN_of all4) (sml_of (by decide +kernel))
end
section
open PySem PySem.W PyProof.Rows
open PyProof.Rows.LCg (lst NsObj)
set_option linter.unusedVariables false
theorem any0 {a b c d e f : Int} (h1 : 0 < a) (h2 : 0 < b) (h3 : 0 < c) (h4 : 0 < d) (h5 : 0 < e) (h6 : 0 < f) : ¬ ([a, b, c, d, e, f].any fun x => x == 0) = true := by
  simp only [List.any_cons, List.any_nil, Bool.or_false, Bool.or_eq_true, beq_iff_eq]; omega
theorem name3 {R : Nat → Value → Prop} {p0 p1 p2 : Value} (w0 : R 0 p0) (w1 : R 1 p1) (w2 : R 2 p2) : ∀ i x1, i < 3 → (#[p0, p1, p2] : Array Value)[i]? = some x1 → R i x1 := by
  intro i x1 hi g1
  match i, hi with
  | 0, _ => cases (show some p0 = some x1 from g1); exact w0
  | 1, _ => cases (show some p1 = some x1 from g1); exact w1
  | 2, _ => cases (show some p2 = some x1 from g1); exact w2
theorem ClmN.use {w : World} {mean : ExcName → Option Value} {mg mb : Str → Option Value} {R : Nat} {l : CbLed} {b sl : Addr} {vs : List Value} {ks : Nat} {spot below : Int} {dp un : Nat} {gd : Option (List Code)} {cn : Str} {cs : Scope} {a : Addr} {ccd : Value} {cl : List (Str × Addr)} {outer : List Env} {A₀ : Around} {base h₀ : Heap} {L : Addr} {m : Str → Option Value} {s : Shared} {ts tb : Tok} {k : Nat} {Q E : Value → Shared → Prop}
    (C : ClmN w mean mg mb R l b sl vs ks spot below) (B : Below A₀ base outer h₀) (F : Fr h₀ L s.heap m) (X : (Mine.k0.heap_1 w.params).In h₀) (N : News h₀ L s.heap ((b, bagO sl spot ts k) :: (sl, scrO vs ks) :: l)) (hn : ∀ p ∈ l, p.1 ≠ b) (hs : sl ≠ b) (T : Top Mine.view loose0 mean mg mb h₀) (hk : cs.kind = .function)
    (room : Room dp un R) (ret : ∀ r t ts' k' h' tk', 0 ≤ r → r < below → Fr h₀ L h' m → News h₀ L h' ((b, bagO sl (spot + 1) ts' k') :: (sl, scrO vs ks) :: l) → Q (.int r t) { s with heap := h', toks := tk' }) :
    wpAny (model prog0 w) (ktrTop dp un gd cn cs L a ccd cl outer) (call (.ref 220) [.ref b, .int below tb]) Q E s := C _ _ _ _ _ _ _ _ _ _ _ _ _ _ _ _ _ _ _ _ B F X N hn hs T hk room ret
theorem news_pick {h₀ h : Heap} {L : Addr} {led l2 : List (Addr × Obj)} {p q : Addr × Obj} (i : Nat) (N : News h₀ L h led) (e : led.drop i = p :: q :: l2) : News h₀ L h (p :: q :: (led.take i ++ l2)) := fun x hx => by
  have hd : ∀ y ∈ p :: q :: l2, y ∈ led := fun y hy => List.mem_of_mem_drop (i := i) (e ▸ hy)
  rcases List.mem_cons.mp hx with rfl | hx
  · exact N _ (hd _ (.head _))
  · rcases List.mem_cons.mp hx with rfl | hx
    · exact N _ (hd _ (.tail _ (.head _)))
    · rcases List.mem_append.mp hx with hx | hx
      · exact N _ (List.mem_of_mem_take hx)
      · exact N _ (hd _ (.tail _ (.tail _ hx)))
end
local macro_rules | `(tactic| walk_at "call ref") => `(tactic| (k_here; k_dflt (first
  | (refine' Clm.use (two_add _ _ _ _ _ _ _ (by walk_at "MINE fact") _ _ _) ?k1 ?k2 ?k3 ?k4 ?k5 ?kK ?kr ?_; walk_at "MINE use")
  | (refine' Clm.use (two_sub _ _ _ _ _ _ _ (by walk_at "MINE fact") _ _ _) ?k1 ?k2 ?k3 ?k4 ?k5 ?kK ?kr ?_; walk_at "MINE use")
  | (refine' Clm.use (two_mul _ _ _ _ _ _ _ (by walk_at "MINE fact") (by walk_at "MINE fact") (by walk_at "MINE fact") (by walk_at "MINE fact") (by walk_at "MINE fact") _ _ _) ?k1 ?k2 ?k3 ?k4 ?k5 ?kK ?kr ?_; walk_at "MINE use")
  | (refine' Clm.use (two_mod _ _ _ _ _ _ _ (by walk_at "MINE fact") (by walk_at "MINE fact") (by walk_at "MINE fact") (by walk_at "MINE fact") _ _ _) ?k1 ?k2 ?k3 ?k4 ?k5 ?kK ?kr ?_; walk_at "MINE use")
  | (refine' Clm.use (two_div _ _ _ _ _ _ _ (by walk_at "MINE fact") (by walk_at "MINE fact") (by walk_at "MINE fact") (by walk_at "MINE fact") _ _ _) ?k1 ?k2 ?k3 ?k4 ?k5 ?kK ?kr ?_; walk_at "MINE use")
  | (refine' Clm.use (rest_c _ _ _ _ _ _ _ (by walk_at "MINE fact") (by walk_at "MINE fact") (by walk_at "MINE fact") _ _) ?k1 ?k2 ?k3 ?k4 ?k5 ?kK ?kr ?_; walk_at "MINE use")
  | (refine' Clm.use (inverse_c _ _ _ _ _ _ _ _ (by assumption) (by walk_at "MINE fact") (by walk_at "MINE fact") (by walk_at "MINE fact") _ _) ?k1 ?k2 ?k3 ?k4 ?k5 ?kK ?kr ?_; walk_at "MINE use"))))
local macro_rules | `(tactic| walk_at "MINE law") => `(tactic| repeat' ((fail_if_success (walk_at "MINE stop")); first | (k_unfold; (try dsimp only)) | walk1 | (dsimp only; (fail_if_success (walk_at "MINE stop")); walk1) | fail "no step"))
local macro_rules | `(tactic| walk_at "ite") => `(tactic| (k_here; k_dflt (refine ite_neg (any0 (by assumption) (by assumption) (by assumption) (by assumption) (by assumption) (by assumption)) ?_)))
local macro_rules | `(tactic| walk_at "MINE fact") => `(tactic| first | assumption | exact ⟨by assumption, by assumption⟩ | exact fits_of_pos (by assumption) (by assumption))
local macro_rules | `(tactic| walk_at "MINE w1") => `(tactic| (intro C oC m₂ h9 tk9 all E9 hoC hb hlt F9 N9 hA; (simp only [List.cons_append, List.nil_append] at N9); walk_at "MINE law"; walk_at "MINE elt"))
local macro_rules | `(tactic| walk_at "MINE w2") => `(tactic| (intro C oC m₂ h9 tk9 all E9 hoC hb hlt F9 N9 hA; (obtain ⟨hb1, hb2⟩ := hb); (simp only [List.cons_append, List.nil_append] at N9); walk_at "MINE law"; walk_at "MINE elt"))
local macro_rules | `(tactic| walk_at "binaryOp FloorDiv int int") => `(tactic| (k_here; refine floordiv_int (by assumption) ?_ (Or.inl (PyProof.noPylong_small (by law_clear; omega)))))
local macro_rules | `(tactic| walk_at "MINE fact") => `(tactic| first | assumption | exact Sml.lo (by assumption) | exact Sml.hi (by assumption) | exact Nng.fits (by assumption) | exact tmod_fits (Sml.lo (by assumption)) (Sml.hi (by assumption)))
local macro_rules | `(tactic| walk_at "MINE mem") => `(tactic| repeat (first | exact List.Mem.head _ | refine List.Mem.tail _ ?_))
local macro_rules | `(tactic| walk_at "MINE sublist") => `(tactic| repeat (first | exact List.forall_mem_nil _ | refine List.forall_mem_cons.mpr ⟨by walk_at "MINE mem", ?_⟩))
local macro_rules | `(tactic| walk_at "MINE news") => `(tactic| repeat (first | exact news_nil | refine news_cons (by assumption) (by walk_at "MINE mem") ?_))
local macro_rules | `(tactic| walk_at "eval ListComp") => `(tactic| (k_here; k_dflt (refine eval_comp (by k_asm) (by with_unfolding_all rfl) (by decide) (by rfl) (by decide) ?_)))
local macro_rules | `(tactic| walk_at "exec Assign cons ListComp") => `(tactic| (k_here; k_dflt (first | refine assign_comp (by k_asm) (by rfl) (by with_unfolding_all rfl) (by with_unfolding_all rfl) (by decide) (by rfl) (by decide) (by rfl) (by rfl) ?_ | refine assign_comp_c (by k_asm) (by rfl) (by with_unfolding_all rfl) (by with_unfolding_all rfl) (by rfl) (by rfl) (by decide) (by rfl) (by rfl) ?_)))
section
local macro_rules | `(tactic| walk_at "ite") => `(tactic| (k_here; k_openite; first | refine ite_pos (by walk_at "MINE arith") ?_ | refine ite_neg (by walk_at "MINE arith") ?_))
local macro_rules | `(tactic| walk_at "ite") => `(tactic| (k_here; k_openite; refine ite_neg (bne_no (by first | rfl | assumption)) ?_))
local macro_rules | `(tactic| walk_at "binaryOp Mult int int") => `(tactic| (k_here; refine mul_int ?_ (by first | exact mul_smL (by assumption) | exact mul_ngR (by assumption))))
local macro_rules | `(tactic| walk_at "MINE sum") => `(tactic| (refine' Clm.use (sum_told_k ?h1 ?h2 ?hG ?hs ?p0 ?p1 ?p2) ?k1 ?k2 ?k3 ?k4 ?k5 ?kK ?kr ?_; (case k1 => k_asm); (case k2 => k_asm); (case k3 => k_asm); (case k4 => k_asm); (case h1 => walk_at "MINE mem"); (case h2 => walk_at "MINE mem"); (case hG => assumption); (case hs => assumption); (case p0 => assumption); (case p1 => assumption); (case p2 => assumption); (case k5 => k_asm); (case kK => exact rfl); (case kr => walk_at "MINE room"); (intro t9 h9 tk9 F9 N9); (try dsimp only)))
section
open PySem PySem.W PyProof.Rows
open PyProof.Rows.LCg (lst NsObj)
set_option linter.unusedVariables false




local macro_rules | `(tactic| walk_at "MINE stop") => `(tactic| first | (with_reducible show wpAny _ _ (call (Value.type "zip") _) _ _ _) | (with_reducible show wpAny _ _ (pyIter _) _ _ _) | (with_reducible show wpAny _ _ (call (Value.ref 246) _) _ _ _) | (with_reducible show wpAny _ _ (compareOp CmpOp.NotEq (Value.ref _) (Value.ref _)) _ _ _))








inductive OpCase (w : World) (mean : ExcName → Option Value) (mg mb : Str → Option Value) (x0 x1 x2 y0 y1 y2 m1 m2 m3 p1 p2 p3 n1 n2 : Int) : Value → Prop
  | mk (os : Str) (t : Tok) (v0 v1 v2 fn : Int) (oo0 : OpOk w mean mg mb os x0 y0 v0) (oo1 : OpOk w mean mg mb os x1 y1 v1) (oo2 : OpOk w mean mg mb os x2 y2 v2) (oon : OpOk w mean mg mb os n1 n2 fn) (pf : OpFacts x0 x1 x2 y0 y1 y2 m1 m2 m3 p1 p2 p3 v0 v1 v2 fn) : OpCase w mean mg mb x0 x1 x2 y0 y1 y2 m1 m2 m3 p1 p2 p3 n1 n2 (.str os t)
inductive OpJ (L aR aP aN : Addr) (tl : List (Addr × Obj)) : (Str → Option Value) → List (Addr × Obj) → Prop
  | mk (oF : Obj) (cF : Option Value) (mq : Str → Option Value) (h : oF.data = .cell cF) : OpJ L aR aP aN tl (fun y => if y = Str.ofString "rows" then some (.ref aR) else if y = Str.ofString "parts" then some (.ref aP) else if y = Str.ofString "numbers" then some (.ref aN) else mq y) ((L + 1 + 1 + 1 + 1 + 1, oF) :: tl)
theorem OpJ.of {L aR aP aN : Addr} {tl : List (Addr × Obj)} {m : Str → Option Value} {oF : Obj} {cF : Option Value} (h : oF.data = .cell cF) (h1 : m (Str.ofString "rows") = some (.ref aR)) (h2 : m (Str.ofString "parts") = some (.ref aP)) (h3 : m (Str.ofString "numbers") = some (.ref aN)) : OpJ L aR aP aN tl m ((L + 1 + 1 + 1 + 1 + 1, oF) :: tl) := by
  rw [map_put3 h1 h2 h3]; exact .mk oF cF m h

local macro_rules | `(tactic| walk_at "MINE w3") => `(tactic| (intro C oC m₂ h9 tk9 all E9 hoC hb hlt F9 N9 hA; (obtain ⟨hb1, hb2, hb3⟩ := hb); (simp only [List.cons_append, List.nil_append] at N9); (try dsimp only); walk_at "MINE law"; walk_at "MINE elt"))
local macro_rules | `(tactic| walk_at "call ref") => `(tactic| (k_here; k_dflt (refine' Clm.use (OpOk.at ?hC) ?k1 ?k2 ?k3 ?k4 ?k5 ?kK ?kr ?_; (case hC => assumption); walk_at "MINE use")))
local macro_rules | `(tactic| walk_at "binaryOp Mod int int") => `(tactic| (k_here; refine mod_int' (Int.ne_of_gt (Sml.lo (by assumption))) ?_))

theorem law_r8 (w : World) (mean : ExcName → Option Value) (mg mb : Str → Option Value) {base h₀ h : Heap} {L fa tM aN aP aR aG a b : Addr} {oc cdw cdv dV kV doc pm ct : Value} {od an : Option Addr} {osl : Array (Option Value)} {nm qual : Str} {params : Arguments} {st1 st2 st3 st4 st5 st6 st7 st8 st9 st10 st11 st12 st13 : Stmt} {body : List Stmt} {scope : Scope}
    {m1 m2 m3 n1 n2 p1 p2 p3 x0 x1 x2 y0 y1 y2 o1 o2 o3 : Int} {s1 s2 s3 q1 q2 tW r1 r2 r3 e0 e1 e2 u0 u1 u2 : Tok} {kM kN kA kB tk : Nat} {u : Str → Option Value} {oM oW oO oP oF : Obj} {cO cP cF : Option Value} {gens : Array GenState} {drawn : Drawn} {os : OsState} {Q : Flow → Shared → Prop} {E : Value → Shared → Prop}
    (hK : (Mine.k0.heap_1 w.params).lookup 258 = some ⟨oc, od, .func (fnOf nm qual params (st1 :: st2 :: st3 :: st4 :: st5 :: st6 :: st7 :: st8 :: st9 :: st10 :: st11 :: st12 :: st13 :: body) scope dV kV doc pm an cdv ct), osl⟩)
    (B : Below callerA base [] h₀) (X : (Mine.k0.heap_1 w.params).In h₀) (T : Top Mine.view loose0 mean mg mb h₀)
    (F : Fr h₀ L h (fun v => if v = Str.ofString "figures" then some (.ref aG) else if v = Str.ofString "rows" then some (.ref aR) else if v = Str.ofString "parts" then some (.ref aP) else if v = Str.ofString "numbers" then some (.ref aN) else u v))
    (N : News h₀ L h [(aR, lst [.ref a, .ref b]), (a, l3 x0 x1 x2 e0 e1 e2 kA), (b, l3 y0 y1 y2 u0 u1 u2 kB), (aP, lst [.int p1 r1, .int p2 r2, .int p3 r3]), (aN, listOf #[.int n1 q1, .int n2 q2] kN), (tM, tup3 m1 m2 m3 s1 s2 s3 kM), (L + 1, oM), (L + 1 + 1, oW), (L + 1 + 1 + 1, oO), (L + 1 + 1 + 1 + 1, oP), (L + 1 + 1 + 1 + 1 + 1, oF)])
    (hoM : oM.data = .cell (some (.ref tM))) (hoW : oW.data = .cell (some (.int (m1 * m2 * m3) tW))) (hoO : oO.data = .cell cO) (hoP : oP.data = .cell cP) (hoF : oF.data = .cell cF)
    (d1 : @LT.lt Nat _ (L + 1 + 1 + 1 + 1 + 1) aN) (d2 : @LT.lt Nat _ (L + 1 + 1 + 1 + 1 + 1) tM) (d3 : @LT.lt Nat _ (L + 1 + 1 + 1 + 1 + 1) aP) (d5 : @LT.lt Nat _ (L + 1 + 1 + 1 + 1 + 1) aR) (da4 : @Ne Nat (L + 1 + 1 + 1 + 1) a) (da5 : @Ne Nat (L + 1 + 1 + 1 + 1 + 1) a) (db4 : @Ne Nat (L + 1 + 1 + 1 + 1) b) (db5 : @Ne Nat (L + 1 + 1 + 1 + 1 + 1) b)
    (S : SmlM m1 m2 m3 o1 o2 o3 p1 p2 p3 n1 n2) (G : Late8 x0 x1 x2 y0 y1 y2 m1 m2 m3 p1 p2 p3 n1 n2)
    (hret : ∀ h' tk' m' l, Fr h₀ L h' m' → News h₀ L h' l → Q (.ret (.bool true)) { heap := h', gens := gens, drawn := drawn, toks := tk', os := os }) :
    wpAny (model PySem.Challenge.rw_xm0033_01.row.prog w) (callerA.deeper (envOfC qual scope L fa cdw)) (execs body (envOfC qual scope L fa cdw)) Q E { heap := h, gens := gens, drawn := drawn, toks := tk, os := os } := by
  have kf : (Mine.k0.heap_1 w.params).In h₀ ∧ PySem.Challenge.rw_xm0033_01.Holds → True := by
    k_fill
    exact fun _ => trivial
  clear kf
  refine' look_use hK ?e9 ?_
  case e9 => k_dflt k_is
  intro h2
  dsimp only [fnOf] at h2
  injection h2 with e1 e2 e3 e4
  injection e3 with e3
  injection e3 with f1 f2 f3 f4 f5 f6 f7 f8 f9 f10 f11 f12 f13 f14 f15
  injection f4 with f4
  injection f4 with gg0 f4
  injection f4 with gg1 f4
  injection f4 with gg2 f4
  injection f4 with gg3 f4
  injection f4 with gg4 f4
  injection f4 with gg5 f4
  injection f4 with gg6 f4
  injection f4 with gg7 f4
  injection f4 with gg8 f4
  injection f4 with gg9 f4
  injection f4 with gg10 f4
  injection f4 with gg11 f4
  injection f4 with gg12 f4
  subst f2 f4 f5
  clear hK e1 e2 e4 f1 f3 f6 f7 f8 f9 f10 f11 f12
  clear gg0 gg1 gg2 gg3 gg4 gg5 gg6 gg7 gg8 gg9 gg10 gg11 gg12
  clear f13 f14 f15
  refine wpAny_noRaise ?_
  obtain ⟨sm1, sm2, sm3, so1, so2, so3, sp1, sp2, sp3, sw, bn1, bn2⟩ := id S
  obtain ⟨bx0, bx1, bx2, by0, by1, by2, add, mul⟩ := G
  walk_at "MINE law"
  dsimp only
  rename Fr _ _ _ _ => F8
  rename News _ _ _ _ => N8
  have N9 := by_news (h₀ := h₀) (L := L) (l' := (L + 1 + 1 + 1 + 1, oP) :: (L + 1 + 1 + 1 + 1 + 1, oF) :: (aR, lst [.ref a, .ref b]) :: (a, l3 x0 x1 x2 e0 e1 e2 kA) :: (b, l3 y0 y1 y2 u0 u1 u2 kB) :: (aP, lst [.int p1 r1, .int p2 r2, .int p3 r3]) :: (aN, listOf #[.int n1 q1, .int n2 q2] kN) :: (tM, tup3 m1 m2 m3 s1 s2 s3 kM) :: (L + 1, oM) :: (L + 1 + 1, oW) :: (L + 1 + 1 + 1, oO) :: []) N8 (by walk_at "MINE sublist")
  refine turns_cell (cc := L + 1 + 1 + 1 + 1) (xs := #[.str (Str.ofString "+") _, .str (Str.ofString "*") _]) (n := 2)
    (fun _ m₁ rst => OpJ L aR aP aN ((aR, lst [.ref a, .ref b]) :: (a, l3 x0 x1 x2 e0 e1 e2 kA) :: (b, l3 y0 y1 y2 u0 u1 u2 kB) :: (aP, lst [.int p1 r1, .int p2 r2, .int p3 r3]) :: (aN, listOf #[.int n1 q1, .int n2 q2] kN) :: (tM, tup3 m1 m2 m3 s1 s2 s3 kM) :: (L + 1, oM) :: (L + 1 + 1, oW) :: (L + 1 + 1 + 1, oO) :: []) m₁ rst)
    (by rfl) F8 N9 hoP (by intro p hp; simp only [List.mem_cons, List.not_mem_nil, or_false] at hp; rcases hp with rfl | rfl | rfl | rfl | rfl | rfl | rfl | rfl | rfl | rfl <;> (intro e; have e' : @Eq Nat _ _ := e; dsimp only at e'; omega))
    (src_tup N8 (by walk_at "MINE mem")) (src_ne N8 (by walk_at "MINE mem")) (by intro e; have e' : @Eq Nat _ _ := e; omega) (N8 _ (.head _)).2.2 rfl (by decide) (by rfl) (by rfl) (by rfl) (OpJ.of hoF rfl rfl rfl) ?turn ?done
  case turn =>
    intro I oI oT i v m₁ oc₁ rest₁ h9 tk9 hI hlI hi hv hoc hJ hadr F9 NN
    have key : OpCase w mean mg mb x0 x1 x2 y0 y1 y2 m1 m2 m3 p1 p2 p3 n1 n2 v := by
      match i, hi with
      | 0, _ => exact Option.some.inj hv ▸ .mk _ _ _ _ _ _ (op_add add.f0) (op_add add.f1) (op_add add.f2) (op_add add.ff) add
      | 1, _ => exact Option.some.inj hv ▸ .mk _ _ _ _ _ _ (op_mul bx0 by0 mul.f0) (op_mul bx1 by1 mul.f1) (op_mul bx2 by2 mul.f2) (op_mul bn1 bn2 mul.ff) mul
    clear hv
    cases key with | mk os t v0 v1 v2 fn oo0 oo1 oo2 oon pf =>
    cases hJ with | mk oF' cF' mq hoF' =>
    have pf0 := pf.f0
    have pf1 := pf.f1
    have pf2 := pf.f2
    have pff := pf.ff
    have psum := pf.sum
    clear N8 N9 F8 add mul
    k_lt hI
    (try dsimp only at F9)
    simp only [List.cons_append, List.nil_append] at NN
    walk_at "MINE law"
    (try dsimp only)
    rename News _ _ _ _ => N7
    have G3 : ∀ i x1' x2' x3', i < 3 → (#[.int x0 e0, .int x1 e1, .int x2 e2] : Array Value)[i]? = some x1' → (#[.int y0 u0, .int y1 u1, .int y2 u2] : Array Value)[i]? = some x2' → (#[.int m1 s1, .int m2 s2, .int m3 s3] : Array Value)[i]? = some x3' → ∃ (a' b' m' v' : Int) (ta tb tm : Tok), x1' = .int a' ta ∧ x2' = .int b' tb ∧ x3' = .int m' tm ∧ OpOk w mean mg mb os a' b' v' ∧ Fits v' ∧ Sml m' ∧ [Int.tmod v0 m1, Int.tmod v1 m2, Int.tmod v2 m3].getD i 0 = Int.tmod v' m' :=
      trip3 ⟨_, _, _, _, _, _, _, rfl, rfl, rfl, oo0, pf0, sm1, rfl⟩ ⟨_, _, _, _, _, _, _, rfl, rfl, rfl, oo1, pf1, sm2, rfl⟩ ⟨_, _, _, _, _, _, _, rfl, rfl, rfl, oo2, pf2, sm3, rfl⟩
    refine ready_zip3 (by rfl) (by k_asm) (xs1 := #[.int x0 e0, .int x1 e1, .int x2 e2]) (xs2 := #[.int y0 u0, .int y1 u1, .int y2 u2]) (xs3 := #[.int m1 s1, .int m2 s2, .int m3 s3]) (b1 := false) (b2 := false) (b3 := true) (n := 3) (src_list N7 (by walk_at "MINE mem")) (src_list N7 (by walk_at "MINE mem")) (src_tup N7 (by walk_at "MINE mem")) (src_ne N7 (by walk_at "MINE mem")) (src_ne N7 (by walk_at "MINE mem")) (src_ne N7 (by walk_at "MINE mem")) rfl rfl rfl (by decide)
      (obsI [Int.tmod v0 m1, Int.tmod v1 m2, Int.tmod v2 m3]) (obsI_ok _) (turn_three (by rfl) (by rfl) (by rfl) (by rfl) (by rfl) (by decide) (by decide) (by decide) (by_news (l' := (L + 1 + 1 + 1 + 1, oc₁) :: []) N7 (by walk_at "MINE sublist")) fun i' x1' x2' x3' hi' g1 g2 g3 => ?w) (fin_int3 N7 ?_)
    case w =>
      refine eltw_gen fun mX sX => ?_
      obtain ⟨a', b', m', v', ta, tb, tm, rfl, rfl, rfl, oo, pf, sm, hv⟩ := G3 i' x1' x2' x3' hi' g1 g2 g3
      intro C oC m₂ h9 tk9 all E9 hoC hb hlt F9 N9 hA
      obtain ⟨hb1, hb2, hb3⟩ := hb
      clear G3 N7 oo0 oo1 oo2
      dsimp only [List.cons_append, List.nil_append] at N9
      walk_at "MINE law"
      rename News _ _ _ _ => N10
      rename Fr _ _ _ _ => F10
      exact elt_end hA hoC (by walk_at "MINE mem") F9 F10 N10 (by walk_at "MINE sub") ⟨_, congrArg (fun q => Value.int q _) hv.symm⟩ (fun _ e => nomatch e)
    clear N7
    intro D1 h1 tk1 z0 z1 z2 F1 N1 hlt1
    k_lt hlt1
    dsimp only
    walk_at "MINE law"
    (try dsimp only)
    rename News _ _ _ _ => N7
    have G1 : ∀ i x1', i < 3 → (#[.int m1 s1, .int m2 s2, .int m3 s3] : Array Value)[i]? = some x1' → ∃ (m' : Int) (tm : Tok), x1' = .int m' tm ∧ Sml m' ∧ [Int.tmod fn m1, Int.tmod fn m2, Int.tmod fn m3].getD i 0 = Int.tmod fn m' :=
      name3 ⟨_, _, rfl, sm1, rfl⟩ ⟨_, _, rfl, sm2, rfl⟩ ⟨_, _, rfl, sm3, rfl⟩
    refine ready_src (by rfl) (by k_asm) (tup := true) (xs := #[.int m1 s1, .int m2 s2, .int m3 s3]) (src_tup N7 (by walk_at "MINE mem")) (src_ne N7 (by walk_at "MINE mem")) (show 3 ≤ sizeLine by decide) (obsI [Int.tmod fn m1, Int.tmod fn m2, Int.tmod fn m3]) (obsI_ok _) (turn_name (by rfl) (by rfl) (by_news (l' := (L + 1 + 1 + 1 + 1 + 1, _) :: []) N7 (by walk_at "MINE sublist")) fun i' x1' hi' g1 => ?w) (fin_int3 N7 ?_)
    case w =>
      refine eltw_gen fun mX sX => ?_
      obtain ⟨m', tm, rfl, sm, hv⟩ := G1 i' x1' hi' g1
      intro C oC m₂ h9 tk9 all E9 hoC hb hlt F9 N9 hA
      clear G1 N7
      dsimp only [List.cons_append, List.nil_append] at N9
      walk_at "MINE law"
      rename News _ _ _ _ => N10
      rename Fr _ _ _ _ => F10
      exact elt_end hA hoC (by walk_at "MINE mem") F9 F10 N10 (by walk_at "MINE sub") ⟨_, congrArg (fun q => Value.int q _) hv.symm⟩ (fun _ e => nomatch e)
    clear N7
    intro D2 h2 tk2 z3 z4 z5 F2 N2 hlt2
    k_lt hlt2
    dsimp only
    walk_at "MINE law"
    (try dsimp only)
    rename News _ _ _ _ => N6
    refine lists_ne3 (isl N6 (by walk_at "MINE mem")) (isl N6 (by walk_at "MINE mem")) (by k_units) pf.e0 pf.e1 pf.e2 ?_
    (try dsimp only)
    walk_at "MINE law"
    walk_at "MINE sum"
    walk_at "MINE law"
    rename News _ _ _ _ => N5
    rename Fr _ _ _ _ => F5
    rename Obj.data _ = Data.cell (some (Value.int fn _)) => hX
    refine ⟨_, _, _, oc₁, _, (L + 1 + 1 + 1 + 1 + 1, _) :: (aR, lst [.ref a, .ref b]) :: (a, l3 x0 x1 x2 e0 e1 e2 kA) :: (b, l3 y0 y1 y2 u0 u1 u2 kB) :: (aP, lst [.int p1 r1, .int p2 r2, .int p3 r3]) :: (aN, listOf #[.int n1 q1, .int n2 q2] kN) :: (tM, tup3 m1 m2 m3 s1 s2 s3 kM) :: (L + 1, oM) :: (L + 1 + 1, oW) :: (L + 1 + 1 + 1, oO) :: [], rfl, F5, ?n, hoc, fun p hp => List.mem_map_of_mem (f := fun x => x.1) hp, OpJ.of hX rfl rfl rfl⟩
    case n =>
      simp only [List.cons_append, List.nil_append]
      exact by_news N5 (by walk_at "MINE sublist")
  case done =>
    intro m₁ oc₁ c rest₁ h9 tk9 hJ hoc F9 N9
    clear N8 F8
    dsimp only
    walk_at "MINE law"
    rename News _ _ _ _ => N5
    rename Fr _ _ _ _ => F5
    exact hret _ _ _ _ F5 N5
end
local macro_rules | `(tactic| walk_at "exec For Tuple Call cons nil") => `(tactic| (k_here; (rename Fr _ _ _ _ => lF'); (with_unfolding_all refine' For_turns lF' ?_; k_whole)))
section
open PySem PySem.W PyProof.Rows
open PyProof.Rows.LCg (lst NsObj)
set_option linter.unusedVariables false




local macro_rules | `(tactic| walk_at "MINE stop") => `(tactic| first | (with_reducible show wpAny _ _ (call (Value.type "zip") _) _ _ _) | (with_reducible show wpAny _ _ (pyIter _) _ _ _) | (with_reducible show wpAny _ _ (execs (Stmt.For _ _ _ _ _ :: _) _) _ _ _) | (with_reducible show wpAny _ _ (compareOp CmpOp.Lt (Value.ref _) (Value.ref _)) _ _ _))







local macro_rules | `(tactic| walk_at "ite") => `(tactic| (k_here; k_openite; refine ite_neg (bne_noB (by assumption)) ?_))



theorem law_r7 (w : World) (mean : ExcName → Option Value) (mg mb : Str → Option Value) {base h₀ h : Heap} {L fa tM aN aP aR aG a b c d : Addr} {oc cdw cdv dV kV doc pm ct : Value} {od an : Option Addr} {osl : Array (Option Value)} {nm qual : Str} {params : Arguments} {st1 st2 st3 st4 st5 st6 st7 st8 st9 st10 st11 st12 : Stmt} {body : List Stmt} {scope : Scope}
    {m1 m2 m3 n1 n2 p1 p2 p3 x0 x1 x2 y0 y1 y2 f0 f1 f2 g0 g1 g2 o1 o2 o3 : Int} {s1 s2 s3 q1 q2 tW r1 r2 r3 e0 e1 e2 u0 u1 u2 v0 v1 v2 w0 w1 w2 : Tok} {kM kN kA kB kC kD tk : Nat} {u : Str → Option Value} {oM oW oO oP oF : Obj} {cO cP cF : Option Value} {gens : Array GenState} {drawn : Drawn} {os : OsState} {Q : Flow → Shared → Prop} {E : Value → Shared → Prop}
    (hK : (Mine.k0.heap_1 w.params).lookup 258 = some ⟨oc, od, .func (fnOf nm qual params (st1 :: st2 :: st3 :: st4 :: st5 :: st6 :: st7 :: st8 :: st9 :: st10 :: st11 :: st12 :: body) scope dV kV doc pm an cdv ct), osl⟩)
    (B : Below callerA base [] h₀) (X : (Mine.k0.heap_1 w.params).In h₀) (T : Top Mine.view loose0 mean mg mb h₀)
    (F : Fr h₀ L h (fun v => if v = Str.ofString "figures" then some (.ref aG) else if v = Str.ofString "rows" then some (.ref aR) else if v = Str.ofString "parts" then some (.ref aP) else if v = Str.ofString "numbers" then some (.ref aN) else u v))
    (N : News h₀ L h [(aG, lst [.ref c, .ref d]), (c, l3 f0 f1 f2 v0 v1 v2 kC), (d, l3 g0 g1 g2 w0 w1 w2 kD), (aR, lst [.ref a, .ref b]), (a, l3 x0 x1 x2 e0 e1 e2 kA), (b, l3 y0 y1 y2 u0 u1 u2 kB), (aP, lst [.int p1 r1, .int p2 r2, .int p3 r3]), (aN, listOf #[.int n1 q1, .int n2 q2] kN), (tM, tup3 m1 m2 m3 s1 s2 s3 kM), (L + 1, oM), (L + 1 + 1, oW), (L + 1 + 1 + 1, oO), (L + 1 + 1 + 1 + 1, oP), (L + 1 + 1 + 1 + 1 + 1, oF)])
    (hoM : oM.data = .cell (some (.ref tM))) (hoW : oW.data = .cell (some (.int (m1 * m2 * m3) tW))) (hoO : oO.data = .cell cO) (hoP : oP.data = .cell cP) (hoF : oF.data = .cell cF)
    (d1 : @LT.lt Nat _ (L + 1 + 1 + 1 + 1 + 1) aN) (d2 : @LT.lt Nat _ (L + 1 + 1 + 1 + 1 + 1) tM) (d3 : @LT.lt Nat _ (L + 1 + 1 + 1 + 1 + 1) aP) (d5 : @LT.lt Nat _ (L + 1 + 1 + 1 + 1 + 1) aR) (d6 : @LT.lt Nat _ (L + 1 + 1 + 1 + 1 + 1) aG) (da4 : @Ne Nat (L + 1 + 1 + 1 + 1) a) (da5 : @Ne Nat (L + 1 + 1 + 1 + 1 + 1) a) (db4 : @Ne Nat (L + 1 + 1 + 1 + 1) b) (db5 : @Ne Nat (L + 1 + 1 + 1 + 1 + 1) b)
    (S : SmlM m1 m2 m3 o1 o2 o3 p1 p2 p3 n1 n2) (G : Late7 x0 x1 x2 y0 y1 y2 f0 f1 f2 g0 g1 g2 m1 m2 m3 p1 p2 p3 n1 n2)
    (hret : ∀ h' tk' m' l, Fr h₀ L h' m' → News h₀ L h' l → Q (.ret (.bool true)) { heap := h', gens := gens, drawn := drawn, toks := tk', os := os }) :
    wpAny (model PySem.Challenge.rw_xm0033_01.row.prog w) (callerA.deeper (envOfC qual scope L fa cdw)) (execs body (envOfC qual scope L fa cdw)) Q E { heap := h, gens := gens, drawn := drawn, toks := tk, os := os } := by
  have kf : (Mine.k0.heap_1 w.params).In h₀ ∧ PySem.Challenge.rw_xm0033_01.Holds → True := by
    k_fill
    exact fun _ => trivial
  clear kf
  refine' look_use hK ?e9 ?_
  case e9 => k_dflt k_is
  intro h2
  dsimp only [fnOf] at h2
  injection h2 with e1 e2 e3 e4
  injection e3 with e3
  injection e3 with f1 f2 f3 f4 f5 f6 f7 f8 f9 f10 f11 f12 f13 f14 f15
  injection f4 with f4
  injection f4 with gg0 f4
  injection f4 with gg1 f4
  injection f4 with gg2 f4
  injection f4 with gg3 f4
  injection f4 with gg4 f4
  injection f4 with gg5 f4
  injection f4 with gg6 f4
  injection f4 with gg7 f4
  injection f4 with gg8 f4
  injection f4 with gg9 f4
  injection f4 with gg10 f4
  injection f4 with gg11 f4
  subst f2 f4 f5
  clear hK e1 e2 e4 f1 f3 f6 f7 f8 f9 f10 f11 f12
  clear gg0 gg1 gg2 gg3 gg4 gg5 gg6 gg7 gg8 gg9 gg10 gg11
  clear f13 f14 f15
  refine wpAny_noRaise ?_
  obtain ⟨sm1, sm2, sm3, so1, so2, so3, sp1, sp2, sp3, sw, bn1, bn2⟩ := id S
  obtain ⟨cmp, l8⟩ := G
  walk_at "MINE law"
  rename News _ _ _ _ => N8
  refine lists_lt3 (isl N8 (by walk_at "MINE mem")) (isl N8 (by walk_at "MINE mem")) (by k_units) ?_
  dsimp only
  walk_at "MINE law"
  dsimp only
  rename Fr _ _ _ _ => F9
  rename News _ _ _ _ => NX
  have N9 := by_news (h₀ := h₀) (L := L) (l' := (aR, lst [.ref a, .ref b]) :: (a, l3 x0 x1 x2 e0 e1 e2 kA) :: (b, l3 y0 y1 y2 u0 u1 u2 kB) :: (aP, lst [.int p1 r1, .int p2 r2, .int p3 r3]) :: (aN, listOf #[.int n1 q1, .int n2 q2] kN) :: (tM, tup3 m1 m2 m3 s1 s2 s3 kM) :: (L + 1, oM) :: (L + 1 + 1, oW) :: (L + 1 + 1 + 1, oO) :: (L + 1 + 1 + 1 + 1, oP) :: (L + 1 + 1 + 1 + 1 + 1, oF) :: []) NX (by walk_at "MINE sublist")
  refine' look_have (K := Mine.k0.heap_1 w.params) (a := 258) ?hk ?_
  case hk => k_dflt k_is
  intro hk0
  exact law_r8 (cO := cO) w mean mg mb hk0 B X T F9 N9 hoM hoW hoO hoP hoF d1 d2 d3 d5 da4 da5 db4 db5 S l8 hret
end
section
open PySem PySem.W PyProof.Rows
open PyProof.Rows.LCg (lst NsObj)
set_option linter.unusedVariables false





local macro_rules | `(tactic| walk_at "MINE law") => `(tactic| repeat' ((fail_if_success (with_reducible show wpAny _ _ (call (Value.ref 246) _) _ _ _)); (fail_if_success (with_reducible show wpAny _ _ (call (Value.type "zip") _) _ _ _)); (fail_if_success (with_reducible show wpAny _ _ (pyIter _) _ _ _)); first | (k_unfold; (try dsimp only)) | walk1 | (dsimp only; walk1) | fail "no step"))









theorem law_r6 (w : World) (mean : ExcName → Option Value) (mg mb : Str → Option Value) {base h₀ h : Heap} {L fa tM aN aP aT aR aG a b c d : Addr} {oc cdw cdv dV kV doc pm ct : Value} {od an : Option Addr} {osl : Array (Option Value)} {nm qual : Str} {params : Arguments} {st1 st2 st3 st4 st5 st6 st7 st8 st9 st10 st11 : Stmt} {body : List Stmt} {scope : Scope}
    {m1 m2 m3 n1 n2 p1 p2 p3 x0 x1 x2 y0 y1 y2 f0 f1 f2 g0 g1 g2 o1 o2 o3 : Int} {s1 s2 s3 q1 q2 tW r1 r2 r3 e0 e1 e2 u0 u1 u2 v0 v1 v2 w0 w1 w2 : Tok} {kM kN kA kB kC kD tk : Nat} {u : Str → Option Value} {oM oW oO oP oF : Obj} {cO cP cF : Option Value} {gens : Array GenState} {drawn : Drawn} {os : OsState} {Q : Flow → Shared → Prop} {E : Value → Shared → Prop}
    (hK : (Mine.k0.heap_1 w.params).lookup 258 = some ⟨oc, od, .func (fnOf nm qual params (st1 :: st2 :: st3 :: st4 :: st5 :: st6 :: st7 :: st8 :: st9 :: st10 :: st11 :: body) scope dV kV doc pm an cdv ct), osl⟩)
    (B : Below callerA base [] h₀) (X : (Mine.k0.heap_1 w.params).In h₀) (T : Top Mine.view loose0 mean mg mb h₀)
    (F : Fr h₀ L h (fun v => if v = Str.ofString "figures" then some (.ref aG) else if v = Str.ofString "rows" then some (.ref aR) else if v = Str.ofString "parts" then some (.ref aP) else if v = Str.ofString "turned" then some (.ref aT) else if v = Str.ofString "numbers" then some (.ref aN) else if v = Str.ofString "third" then some (.int m3 s3) else if v = Str.ofString "second" then some (.int m2 s2) else if v = Str.ofString "first" then some (.int m1 s1) else u v))
    (N : News h₀ L h [(aG, lst [.ref c, .ref d]), (c, l3 f0 f1 f2 v0 v1 v2 kC), (d, l3 g0 g1 g2 w0 w1 w2 kD), (aR, lst [.ref a, .ref b]), (a, l3 x0 x1 x2 e0 e1 e2 kA), (b, l3 y0 y1 y2 u0 u1 u2 kB), (aP, lst [.int p1 r1, .int p2 r2, .int p3 r3]), (aN, listOf #[.int n1 q1, .int n2 q2] kN), (tM, tup3 m1 m2 m3 s1 s2 s3 kM), (L + 1, oM), (L + 1 + 1, oW), (L + 1 + 1 + 1, oO), (L + 1 + 1 + 1 + 1, oP), (L + 1 + 1 + 1 + 1 + 1, oF)])
    (hoM : oM.data = .cell (some (.ref tM))) (hoW : oW.data = .cell (some (.int (m1 * m2 * m3) tW))) (hoO : oO.data = .cell cO) (hoP : oP.data = .cell cP) (hoF : oF.data = .cell cF)
    (d1 : @LT.lt Nat _ (L + 1 + 1 + 1 + 1 + 1) aN) (d2 : @LT.lt Nat _ (L + 1 + 1 + 1 + 1 + 1) tM) (d3 : @LT.lt Nat _ (L + 1 + 1 + 1 + 1 + 1) aP) (d5 : @LT.lt Nat _ (L + 1 + 1 + 1 + 1 + 1) aR) (d6 : @LT.lt Nat _ (L + 1 + 1 + 1 + 1 + 1) aG) (da4 : @Ne Nat (L + 1 + 1 + 1 + 1) a) (da5 : @Ne Nat (L + 1 + 1 + 1 + 1 + 1) a) (db4 : @Ne Nat (L + 1 + 1 + 1 + 1) b) (db5 : @Ne Nat (L + 1 + 1 + 1 + 1 + 1) b)
    (S : SmlM m1 m2 m3 o1 o2 o3 p1 p2 p3 n1 n2) (G : Late6 x0 x1 x2 y0 y1 y2 f0 f1 f2 g0 g1 g2 m1 m2 m3 p1 p2 p3 n1 n2)
    (hret : ∀ h' tk' m' l, Fr h₀ L h' m' → News h₀ L h' l → Q (.ret (.bool true)) { heap := h', gens := gens, drawn := drawn, toks := tk', os := os }) :
    wpAny (model PySem.Challenge.rw_xm0033_01.row.prog w) (callerA.deeper (envOfC qual scope L fa cdw)) (execs body (envOfC qual scope L fa cdw)) Q E { heap := h, gens := gens, drawn := drawn, toks := tk, os := os } := by
  have kf : (Mine.k0.heap_1 w.params).In h₀ ∧ PySem.Challenge.rw_xm0033_01.Holds → True := by
    k_fill
    exact fun _ => trivial
  clear kf
  refine' look_use hK ?e9 ?_
  case e9 => k_dflt k_is
  intro h2
  dsimp only [fnOf] at h2
  injection h2 with e1 e2 e3 e4
  injection e3 with e3
  injection e3 with f1 f2 f3 f4 f5 f6 f7 f8 f9 f10 f11 f12 f13 f14 f15
  injection f4 with f4
  injection f4 with gg0 f4
  injection f4 with gg1 f4
  injection f4 with gg2 f4
  injection f4 with gg3 f4
  injection f4 with gg4 f4
  injection f4 with gg5 f4
  injection f4 with gg6 f4
  injection f4 with gg7 f4
  injection f4 with gg8 f4
  injection f4 with gg9 f4
  injection f4 with gg10 f4
  subst f2 f4 f5
  clear hK e1 e2 e4 f1 f3 f6 f7 f8 f9 f10 f11 f12
  clear gg0 gg1 gg2 gg3 gg4 gg5 gg6 gg7 gg8 gg9 gg10
  clear f13 f14 f15
  refine wpAny_noRaise ?_
  obtain ⟨sm1, sm2, sm3, so1, so2, so3, sp1, sp2, sp3, sw, bn1, bn2⟩ := id S
  obtain ⟨bf0, bf1, bf2, bg0, bg1, bg2, sx, sy, ex, ey, l7⟩ := G
  walk_at "MINE law"
  rename News _ _ _ _ => N8
  refine turns_at3 (xs1 := #[.int n1 q1, .int n2 q2]) (xs2 := #[.ref a, .ref b]) (xs3 := #[.ref c, .ref d]) (b1 := false) (b2 := false) (b3 := false) (n := 2)
    (fun (_ : Nat) (m₁ : Str → Option Value) => m₁ (Str.ofString "figures") = some (.ref aG) ∧ m₁ (Str.ofString "rows") = some (.ref aR) ∧ m₁ (Str.ofString "parts") = some (.ref aP) ∧ m₁ (Str.ofString "numbers") = some (.ref aN) ∧ m₁ (Str.ofString "second") = some (.int m2 s2) ∧ m₁ (Str.ofString "first") = some (.int m1 s1))
    (by rfl) (by k_asm) N8 (src_list N8 (by k_mem)) (src_list N8 (by k_mem)) (src_list N8 (by k_mem)) (src_ne N8 (by k_mem)) (src_ne N8 (by k_mem)) (src_ne N8 (by k_mem)) rfl rfl rfl (by rfl) (by rfl) (by rfl) (by rfl) ⟨rfl, rfl, rfl, rfl, rfl, rfl⟩ ?turn ?done
  case turn =>
    clear N8
    intro i x1 x2 x3 m₁ h9 tk9 own hi g1 g2 g3 hJ F9 N9
    obtain ⟨j1, j2, j3, j4, j5, j6⟩ := hJ
    obtain ⟨mq, em⟩ : ∃ mq : Str → Option Value, m₁ = fun y => if y = Str.ofString "figures" then some (.ref aG) else if y = Str.ofString "rows" then some (.ref aR) else if y = Str.ofString "parts" then some (.ref aP) else if y = Str.ofString "numbers" then some (.ref aN) else if y = Str.ofString "second" then some (.int m2 s2) else if y = Str.ofString "first" then some (.int m1 s1) else mq y := ⟨m₁, map_put6 j1 j2 j3 j4 j5 j6⟩
    subst em
    dsimp only at F9
    clear j1 j2 j3 j4 j5 j6
    simp only [List.cons_append, List.nil_append] at N9
    match i, hi with
    | 0, _ =>
      cases (show some (Value.int n1 q1) = some x1 from g1); cases (show some (Value.ref a) = some x2 from g2); cases (show some (Value.ref c) = some x3 from g3)
      clear g1 g2 g3
      walk_at "MINE law"
      walk_at "MINE sum"
      walk_at "MINE law"
      rename News _ _ _ _ => N10
      rename Fr _ _ _ _ => F10
      exact ⟨_, _, _, rfl, F10, N10, rfl, rfl, rfl, rfl, rfl, rfl⟩
    | 1, _ =>
      cases (show some (Value.int n2 q2) = some x1 from g1); cases (show some (Value.ref b) = some x2 from g2); cases (show some (Value.ref d) = some x3 from g3)
      clear g1 g2 g3
      walk_at "MINE law"
      walk_at "MINE sum"
      walk_at "MINE law"
      rename News _ _ _ _ => N10
      rename Fr _ _ _ _ => F10
      exact ⟨_, _, _, rfl, F10, N10, rfl, rfl, rfl, rfl, rfl, rfl⟩
  case done =>
    intro m₁ h9 tk9 hJ F9 N9
    clear N8
    obtain ⟨j1, j2, j3, j4, j5, j6⟩ := hJ
    obtain ⟨mq, em⟩ : ∃ mq : Str → Option Value, m₁ = fun y => if y = Str.ofString "figures" then some (.ref aG) else if y = Str.ofString "rows" then some (.ref aR) else if y = Str.ofString "parts" then some (.ref aP) else if y = Str.ofString "numbers" then some (.ref aN) else if y = Str.ofString "second" then some (.int m2 s2) else if y = Str.ofString "first" then some (.int m1 s1) else mq y := ⟨m₁, map_put6 j1 j2 j3 j4 j5 j6⟩
    subst em
    clear j1 j2 j3 j4 j5 j6
    dsimp only
    refine' look_have (K := Mine.k0.heap_1 w.params) (a := 258) ?hk ?_
    case hk => k_dflt k_is
    intro hk0
    exact law_r7 (cO := cO) w mean mg mb hk0 B X T F9 N9 hoM hoW hoO hoP hoF d1 d2 d3 d5 d6 da4 da5 db4 db5 S l7 hret
end
end
section
open PySem PySem.W PyProof.Rows
open PyProof.Rows.LCg (lst NsObj)
set_option linter.unusedVariables false





local macro_rules | `(tactic| walk_at "MINE law") => `(tactic| repeat' ((fail_if_success (with_reducible show wpAny _ _ (call (Value.ref 253) _) _ _ _)); (fail_if_success (with_reducible show wpAny _ _ (call (Value.type "zip") _) _ _ _)); (fail_if_success (with_reducible show wpAny _ _ (pyIter _) _ _ _)); first | (k_unfold; (try dsimp only)) | walk1 | (dsimp only; walk1) | fail "no step"))





theorem law_r5 (w : World) (mean : ExcName → Option Value) (mg mb : Str → Option Value) {base h₀ h : Heap} {L fa tM aN aP aO aT aR a b : Addr} {oc cdw cdv dV kV doc pm ct : Value} {od an : Option Addr} {osl : Array (Option Value)} {nm qual : Str} {params : Arguments} {st1 st2 st3 st4 st5 st6 st7 st8 st9 st10 : Stmt} {body : List Stmt} {scope : Scope}
    {m1 m2 m3 n1 n2 o1 o2 o3 p1 p2 p3 x0 x1 x2 y0 y1 y2 : Int} {s1 s2 s3 q1 q2 tW t1 t2 t3 r1 r2 r3 e0 e1 e2 u0 u1 u2 : Tok} {kM kN kA kB kO tk : Nat} {u : Str → Option Value} {oM oW oO oP oF : Obj} {cO cP cF : Option Value} {gens : Array GenState} {drawn : Drawn} {os : OsState} {Q : Flow → Shared → Prop} {E : Value → Shared → Prop}
    (hK : (Mine.k0.heap_1 w.params).lookup 258 = some ⟨oc, od, .func (fnOf nm qual params (st1 :: st2 :: st3 :: st4 :: st5 :: st6 :: st7 :: st8 :: st9 :: st10 :: body) scope dV kV doc pm an cdv ct), osl⟩)
    (B : Below callerA base [] h₀) (X : (Mine.k0.heap_1 w.params).In h₀) (T : Top Mine.view loose0 mean mg mb h₀)
    (F : Fr h₀ L h (fun v => if v = Str.ofString "rows" then some (.ref aR) else if v = Str.ofString "parts" then some (.ref aP) else if v = Str.ofString "turned" then some (.ref aT) else if v = Str.ofString "numbers" then some (.ref aN) else if v = Str.ofString "third" then some (.int m3 s3) else if v = Str.ofString "second" then some (.int m2 s2) else if v = Str.ofString "first" then some (.int m1 s1) else u v))
    (N : News h₀ L h [(aR, lst [.ref a, .ref b]), (a, l3 x0 x1 x2 e0 e1 e2 kA), (b, l3 y0 y1 y2 u0 u1 u2 kB), (aO, l3 o1 o2 o3 t1 t2 t3 kO), (aP, lst [.int p1 r1, .int p2 r2, .int p3 r3]), (aN, listOf #[.int n1 q1, .int n2 q2] kN), (tM, tup3 m1 m2 m3 s1 s2 s3 kM), (L + 1, oM), (L + 1 + 1, oW), (L + 1 + 1 + 1, oO), (L + 1 + 1 + 1 + 1, oP), (L + 1 + 1 + 1 + 1 + 1, oF)])
    (hoM : oM.data = .cell (some (.ref tM))) (hoW : oW.data = .cell (some (.int (m1 * m2 * m3) tW))) (hoO : oO.data = .cell (some (.ref aO))) (hoP : oP.data = .cell cP) (hoF : oF.data = .cell cF)
    (d1 : @LT.lt Nat _ (L + 1 + 1 + 1 + 1 + 1) aN) (d2 : @LT.lt Nat _ (L + 1 + 1 + 1 + 1 + 1) tM) (d3 : @LT.lt Nat _ (L + 1 + 1 + 1 + 1 + 1) aP) (d4 : @LT.lt Nat _ (L + 1 + 1 + 1 + 1 + 1) aO) (d5 : @LT.lt Nat _ (L + 1 + 1 + 1 + 1 + 1) aR) (da4 : @Ne Nat (L + 1 + 1 + 1 + 1) a) (da5 : @Ne Nat (L + 1 + 1 + 1 + 1 + 1) a) (db4 : @Ne Nat (L + 1 + 1 + 1 + 1) b) (db5 : @Ne Nat (L + 1 + 1 + 1 + 1 + 1) b)
    (S : SmlM m1 m2 m3 o1 o2 o3 p1 p2 p3 n1 n2) (G : Late5 x0 x1 x2 y0 y1 y2 m1 m2 m3 o1 o2 o3 p1 p2 p3 n1 n2)
    (hret : ∀ h' tk' m' l, Fr h₀ L h' m' → News h₀ L h' l → Q (.ret (.bool true)) { heap := h', gens := gens, drawn := drawn, toks := tk', os := os }) :
    wpAny (model PySem.Challenge.rw_xm0033_01.row.prog w) (callerA.deeper (envOfC qual scope L fa cdw)) (execs body (envOfC qual scope L fa cdw)) Q E { heap := h, gens := gens, drawn := drawn, toks := tk, os := os } := by
  have kf : (Mine.k0.heap_1 w.params).In h₀ ∧ PySem.Challenge.rw_xm0033_01.Holds → True := by
    k_fill
    exact fun _ => trivial
  clear kf
  refine' look_use hK ?e9 ?_
  case e9 => k_dflt k_is
  intro h2
  dsimp only [fnOf] at h2
  injection h2 with e1 e2 e3 e4
  injection e3 with e3
  injection e3 with f1 f2 f3 f4 f5 f6 f7 f8 f9 f10 f11 f12 f13 f14 f15
  injection f4 with f4
  injection f4 with gg0 f4
  injection f4 with gg1 f4
  injection f4 with gg2 f4
  injection f4 with gg3 f4
  injection f4 with gg4 f4
  injection f4 with gg5 f4
  injection f4 with gg6 f4
  injection f4 with gg7 f4
  injection f4 with gg8 f4
  injection f4 with gg9 f4
  subst f2 f4 f5
  clear hK e1 e2 e4 f1 f3 f6 f7 f8 f9 f10 f11 f12
  clear gg0 gg1 gg2 gg3 gg4 gg5 gg6 gg7 gg8 gg9
  clear f13 f14 f15
  refine wpAny_noRaise ?_
  obtain ⟨sm1, sm2, sm3, so1, so2, so3, sp1, sp2, sp3, sw, bn1, bn2⟩ := id S
  obtain ⟨gx, gy, l6⟩ := G
  walk_at "MINE law"
  rename News _ _ _ _ => N8
  refine ready_src (by rfl) (by k_asm) (tup := false) (xs := #[.ref a, .ref b]) (src_list N8 (by k_mem)) (src_ne N8 (by k_mem)) (show 2 ≤ sizeLine by decide) (obsL [(x0, fg1 x0 x1 o1 m2, fg2 x0 x1 x2 o1 o2 o3 m2 m3), (y0, fg1 y0 y1 o1 m2, fg2 y0 y1 y2 o1 o2 o3 m2 m3)]) (obsL_ok _) (turn_name (by rfl) (by rfl) N8 ?w0) (fin_two N8 ?_)
  case w0 =>
    intro i v hi hv C oC m₂ h9 tk9 all E9 hoC hb hlt F9 N9 hA
    simp only [List.cons_append, List.nil_append] at N9
    clear N8
    match i, hi with
    | 0, _ =>
      cases (show some (Value.ref a) = some v from hv)
      walk_at "MINE law"
      refine' ClmL.use (figures_k ?h1 ?h2 ?h3 ?hG ?hs2 ?hs3 ?ho1 ?ho2 ?ho3) ?k1 ?k2 ?k3 ?k4 ?k5 ?kK ?kr ?_
      case k1 => k_asm
      case k2 => k_asm
      case k3 => k_asm
      case k4 => k_asm
      case h1 => walk_at "MINE mem"
      case h2 => walk_at "MINE mem"
      case h3 => walk_at "MINE mem"
      case hG => assumption
      case hs2 => assumption
      case hs3 => assumption
      case ho1 => assumption
      case ho2 => assumption
      case ho3 => assumption
      case k5 => k_asm
      case kK => exact rfl
      case kr => walk_at "MINE room"
      intro D kD z0 z1 z2 h' tk' FD ND hD
      exact elt_end hA hoC (by walk_at "MINE mem") F9 FD ND (by walk_at "MINE sub") ⟨_, _, _, _, _, rfl, (ND _ (.head _)).1⟩ (fun a e => by cases e; exact new_of_all hA ND hD (by walk_at "MINE sub"))
    | 1, _ =>
      cases (show some (Value.ref b) = some v from hv)
      walk_at "MINE law"
      refine' ClmL.use (figures_k ?h1 ?h2 ?h3 ?hG ?hs2 ?hs3 ?ho1 ?ho2 ?ho3) ?k1 ?k2 ?k3 ?k4 ?k5 ?kK ?kr ?_
      case k1 => k_asm
      case k2 => k_asm
      case k3 => k_asm
      case k4 => k_asm
      case h1 => walk_at "MINE mem"
      case h2 => walk_at "MINE mem"
      case h3 => walk_at "MINE mem"
      case hG => assumption
      case hs2 => assumption
      case hs3 => assumption
      case ho1 => assumption
      case ho2 => assumption
      case ho3 => assumption
      case k5 => k_asm
      case kK => exact rfl
      case kr => walk_at "MINE room"
      intro D kD z0 z1 z2 h' tk' FD ND hD
      exact elt_end hA hoC (by walk_at "MINE mem") F9 FD ND (by walk_at "MINE sub") ⟨_, _, _, _, _, rfl, (ND _ (.head _)).1⟩ (fun a e => by cases e; exact new_of_all hA ND hD (by walk_at "MINE sub"))
  clear N8
  intro D c d h2 tk2 v0 v1 v2 vk w0 w1 w2 wk F2 N2 hlt2 na nb naD nbD
  k_lt hlt2
  dsimp only
  refine' look_have (K := Mine.k0.heap_1 w.params) (a := 258) ?hk ?_
  case hk => k_dflt k_is
  intro hk0
  have N3 : News h₀ L h2 ((D, lst [.ref c, .ref d]) :: (c, l3 x0 (fg1 x0 x1 o1 m2) (fg2 x0 x1 x2 o1 o2 o3 m2 m3) v0 v1 v2 vk) :: (d, l3 y0 (fg1 y0 y1 o1 m2) (fg2 y0 y1 y2 o1 o2 o3 m2 m3) w0 w1 w2 wk) :: (aR, lst [.ref a, .ref b]) :: (a, l3 x0 x1 x2 e0 e1 e2 kA) :: (b, l3 y0 y1 y2 u0 u1 u2 kB) :: (aP, lst [.int p1 r1, .int p2 r2, .int p3 r3]) :: (aN, listOf #[.int n1 q1, .int n2 q2] kN) :: (tM, tup3 m1 m2 m3 s1 s2 s3 kM) :: (L + 1, oM) :: (L + 1 + 1, oW) :: (L + 1 + 1 + 1, oO) :: (L + 1 + 1 + 1 + 1, oP) :: (L + 1 + 1 + 1 + 1 + 1, oF) :: []) := by walk_at "MINE news"
  exact law_r6 (aT := aT) w mean mg mb hk0 B X T F2 N3 hoM hoW hoO hoP hoF d1 d2 d3 d5 (by omega) da4 da5 db4 db5 S l6 hret
end
section
open PySem PySem.W PyProof.Rows
open PyProof.Rows.LCg (lst NsObj)
set_option linter.unusedVariables false





local macro_rules | `(tactic| walk_at "MINE law") => `(tactic| repeat' ((fail_if_success (with_reducible show wpAny _ _ (call (Value.type "zip") _) _ _ _)); (fail_if_success (with_reducible show wpAny _ _ (pyIter _) _ _ _)); first | (k_unfold; (try dsimp only)) | walk1 | (dsimp only; walk1) | fail "no step"))





theorem law_r4 (w : World) (mean : ExcName → Option Value) (mg mb : Str → Option Value) {base h₀ h : Heap} {L fa tM aN aP aO aT : Addr} {oc cdw cdv dV kV doc pm ct : Value} {od an : Option Addr} {osl : Array (Option Value)} {nm qual : Str} {params : Arguments} {st1 st2 st3 st4 st5 st6 st7 st8 st9 : Stmt} {body : List Stmt} {scope : Scope}
    {m1 m2 m3 n1 n2 o1 o2 o3 p1 p2 p3 : Int} {s1 s2 s3 q1 q2 tW t1 t2 t3 r1 r2 r3 : Tok} {kM kN kO tk : Nat} {u : Str → Option Value} {oM oW oO oP oF : Obj} {cO cP cF : Option Value} {gens : Array GenState} {drawn : Drawn} {os : OsState} {Q : Flow → Shared → Prop} {E : Value → Shared → Prop}
    (hK : (Mine.k0.heap_1 w.params).lookup 258 = some ⟨oc, od, .func (fnOf nm qual params (st1 :: st2 :: st3 :: st4 :: st5 :: st6 :: st7 :: st8 :: st9 :: body) scope dV kV doc pm an cdv ct), osl⟩)
    (B : Below callerA base [] h₀) (X : (Mine.k0.heap_1 w.params).In h₀) (T : Top Mine.view loose0 mean mg mb h₀)
    (F : Fr h₀ L h (fun v => if v = Str.ofString "parts" then some (.ref aP) else if v = Str.ofString "turned" then some (.ref aT) else if v = Str.ofString "numbers" then some (.ref aN) else if v = Str.ofString "third" then some (.int m3 s3) else if v = Str.ofString "second" then some (.int m2 s2) else if v = Str.ofString "first" then some (.int m1 s1) else u v))
    (N : News h₀ L h [(aO, l3 o1 o2 o3 t1 t2 t3 kO), (aP, lst [.int p1 r1, .int p2 r2, .int p3 r3]), (aN, listOf #[.int n1 q1, .int n2 q2] kN), (tM, tup3 m1 m2 m3 s1 s2 s3 kM), (L + 1, oM), (L + 1 + 1, oW), (L + 1 + 1 + 1, oO), (L + 1 + 1 + 1 + 1, oP), (L + 1 + 1 + 1 + 1 + 1, oF)])
    (hoM : oM.data = .cell (some (.ref tM))) (hoW : oW.data = .cell (some (.int (m1 * m2 * m3) tW))) (hoO : oO.data = .cell (some (.ref aO))) (hoP : oP.data = .cell cP) (hoF : oF.data = .cell cF)
    (d1 : @LT.lt Nat _ (L + 1 + 1 + 1 + 1 + 1) aN) (d2 : @LT.lt Nat _ (L + 1 + 1 + 1 + 1 + 1) tM) (d3 : @LT.lt Nat _ (L + 1 + 1 + 1 + 1 + 1) aP) (d4 : @LT.lt Nat _ (L + 1 + 1 + 1 + 1 + 1) aO)
    (S : SmlM m1 m2 m3 o1 o2 o3 p1 p2 p3 n1 n2) (G : Late5 (Int.tmod n1 m1) (Int.tmod n1 m2) (Int.tmod n1 m3) (Int.tmod n2 m1) (Int.tmod n2 m2) (Int.tmod n2 m3) m1 m2 m3 o1 o2 o3 p1 p2 p3 n1 n2)
    (hret : ∀ h' tk' m' l, Fr h₀ L h' m' → News h₀ L h' l → Q (.ret (.bool true)) { heap := h', gens := gens, drawn := drawn, toks := tk', os := os }) :
    wpAny (model PySem.Challenge.rw_xm0033_01.row.prog w) (callerA.deeper (envOfC qual scope L fa cdw)) (execs body (envOfC qual scope L fa cdw)) Q E { heap := h, gens := gens, drawn := drawn, toks := tk, os := os } := by
  have kf : (Mine.k0.heap_1 w.params).In h₀ ∧ PySem.Challenge.rw_xm0033_01.Holds → True := by
    k_fill
    exact fun _ => trivial
  clear kf
  refine' look_use hK ?e9 ?_
  case e9 => k_dflt k_is
  intro h2
  dsimp only [fnOf] at h2
  injection h2 with e1 e2 e3 e4
  injection e3 with e3
  injection e3 with f1 f2 f3 f4 f5 f6 f7 f8 f9 f10 f11 f12 f13 f14 f15
  injection f4 with f4
  injection f4 with gg0 f4
  injection f4 with gg1 f4
  injection f4 with gg2 f4
  injection f4 with gg3 f4
  injection f4 with gg4 f4
  injection f4 with gg5 f4
  injection f4 with gg6 f4
  injection f4 with gg7 f4
  injection f4 with gg8 f4
  subst f2 f4 f5
  clear hK e1 e2 e4 f1 f3 f6 f7 f8 f9 f10 f11 f12
  clear gg0 gg1 gg2 gg3 gg4 gg5 gg6 gg7 gg8
  clear f13 f14 f15
  refine wpAny_noRaise ?_
  obtain ⟨sm1, sm2, sm3, so1, so2, so3, sp1, sp2, sp3, sw, bn1, bn2⟩ := id S

  walk_at "MINE law"
  rename News _ _ _ _ => N8
  refine ready_src_c (by rfl) (by k_asm) (tup := false) (xs := #[.int n1 q1, .int n2 q2]) (src_list N8 (by k_mem)) (src_ne N8 (by k_mem)) (show 2 ≤ sizeLine by decide) (obsL [(Int.tmod n1 m1, Int.tmod n1 m2, Int.tmod n1 m3), (Int.tmod n2 m1, Int.tmod n2 m2, Int.tmod n2 m3)]) (obsL_ok _) (turn_name_c (by rfl) (by rfl) N8 ?w0) (fin_two N8 ?_)
  case w0 =>
    intro i v hi hv C oC m₂ cc oc h9 tk9 all E9 hoC hoc hCc hltC hltc F9 N9 hA
    simp only [List.cons_append, List.nil_append] at N9
    clear N8
    match i, hi with
    | 0, _ =>
      cases (show some (Value.int n1 q1) = some v from hv)
      walk_at "MINE law"
      rename News _ _ _ _ => N7
      refine ready_src (by rfl) (by k_asm) (tup := true) (xs := #[.int m1 s1, .int m2 s2, .int m3 s3]) (src_tup N7 (by k_mem)) (src_ne N7 (by k_mem)) (show 3 ≤ sizeLine by decide) (obsI [Int.tmod n1 m1, Int.tmod n1 m2, Int.tmod n1 m3]) (obsI_ok _) (turn_name (by rfl) (by rfl) N7 (name3 ?w0 ?w1 ?w2)) (fin_int3 N7 ?_)
      case w0 => walk_at "MINE w1"
      case w1 => walk_at "MINE w1"
      case w2 => walk_at "MINE w1"
      intro D h' tk' z0 z1 z2 FD ND hD
      exact elt_end_c hA hoC (by walk_at "MINE mem") hoc (by walk_at "MINE mem") F9 FD ND (by walk_at "MINE sub") ⟨D, z0, z1, z2, _, rfl, (ND _ (.head _)).1⟩ (fun a e => by cases e; exact new_of_all hA ND hD (by walk_at "MINE sub"))
    | 1, _ =>
      cases (show some (Value.int n2 q2) = some v from hv)
      walk_at "MINE law"
      rename News _ _ _ _ => N7
      refine ready_src (by rfl) (by k_asm) (tup := true) (xs := #[.int m1 s1, .int m2 s2, .int m3 s3]) (src_tup N7 (by k_mem)) (src_ne N7 (by k_mem)) (show 3 ≤ sizeLine by decide) (obsI [Int.tmod n2 m1, Int.tmod n2 m2, Int.tmod n2 m3]) (obsI_ok _) (turn_name (by rfl) (by rfl) N7 (name3 ?w0 ?w1 ?w2)) (fin_int3 N7 ?_)
      case w0 => walk_at "MINE w1"
      case w1 => walk_at "MINE w1"
      case w2 => walk_at "MINE w1"
      intro D h' tk' z0 z1 z2 FD ND hD
      exact elt_end_c hA hoC (by walk_at "MINE mem") hoc (by walk_at "MINE mem") F9 FD ND (by walk_at "MINE sub") ⟨D, z0, z1, z2, _, rfl, (ND _ (.head _)).1⟩ (fun a e => by cases e; exact new_of_all hA ND hD (by walk_at "MINE sub"))
  clear N8
  intro D a b h2 tk2 x0 x1 x2 xk y0 y1 y2 yk F2 N2 hlt2 na nb naD nbD
  k_lt hlt2
  dsimp only
  refine' look_have (K := Mine.k0.heap_1 w.params) (a := 258) ?hk ?_
  case hk => k_dflt k_is
  intro hk0
  exact law_r5 (cO := none) (aT := aT) (aR := D) (a := a) (b := b) w mean mg mb hk0 B X T F2 N2 hoM hoW hoO hoP hoF d1 d2 d3 d4 (by omega) (na (L + 1 + 1 + 1 + 1, oP) (by walk_at "MINE mem")) (na (L + 1 + 1 + 1 + 1 + 1, oF) (by walk_at "MINE mem")) (nb (L + 1 + 1 + 1 + 1, oP) (by walk_at "MINE mem")) (nb (L + 1 + 1 + 1 + 1 + 1, oF) (by walk_at "MINE mem")) S G hret
end
section
open PySem PySem.W PyProof.Rows
open PyProof.Rows.LCg (lst NsObj)
set_option linter.unusedVariables false




local macro_rules | `(tactic| walk_at "MINE stop") => `(tactic| first | (with_reducible show wpAny _ _ (call (Value.type "zip") _) _ _ _) | (with_reducible show wpAny _ _ (pyIter _) _ _ _) | (with_reducible show wpAny _ _ (execs (Stmt.Assign _ (Expr.ListComp (Expr.ListComp _ _ _ _) _ _ _) _ :: _) _) _ _ _))





local macro_rules | `(tactic| walk_at "MINE fact") => `(tactic| first | assumption | exact Sml.lo (by assumption) | exact Sml.hi (by assumption) | exact Sml.fits (by assumption) | exact Nng.fits (by assumption))
local macro_rules | `(tactic| walk_at "call ref") => `(tactic| (k_here; k_dflt (refine' Clm.use (inverse_c _ _ _ _ _ _ _ _ (by assumption) (by walk_at "MINE fact") (by walk_at "MINE fact") (by walk_at "MINE fact") _ _) ?k1 ?k2 ?k3 ?k4 ?k5 ?kK ?kr ?_; walk_at "MINE use")))
local macro_rules | `(tactic| walk_at "binaryOp FloorDiv int int") => `(tactic| (k_here; refine floordiv_int (Int.ne_of_gt (Sml.lo (by assumption))) ?_ (Or.inl (PyProof.noPylong_small (by law_clear; omega)))))
local macro_rules | `(tactic| walk_at "binaryOp Mult int int") => `(tactic| (k_here; refine mul_int ?_ (mul_smL (by assumption))))
local macro_rules | `(tactic| walk_at "ite") => `(tactic| (k_here; k_dflt (refine ite_neg (any0 (Sml.lo (by assumption)) (Sml.lo (by assumption)) (Sml.lo (by assumption)) (Sml.lo (by assumption)) (Sml.lo (by assumption)) (Sml.lo (by assumption))) ?_)))

theorem law_r2 (w : World) (mean : ExcName → Option Value) (mg mb : Str → Option Value) {base h₀ h : Heap} {L fa tM aN : Addr} {oc cdw cdv dV kV doc pm ct : Value} {od an : Option Addr} {osl : Array (Option Value)} {nm qual : Str} {params : Arguments} {st1 st2 st3 st4 st5 : Stmt} {body : List Stmt} {scope : Scope}
    {m1 m2 m3 i1 i2 i3 o1 o2 o3 n1 n2 : Int} {s1 s2 s3 q1 q2 tW : Tok} {kM kN tk : Nat} {u : Str → Option Value} {oM oW oO oP oF : Obj} {cO cP cF : Option Value} {gens : Array GenState} {drawn : Drawn} {os : OsState} {Q : Flow → Shared → Prop} {E : Value → Shared → Prop}
    (hK : (Mine.k0.heap_1 w.params).lookup 258 = some ⟨oc, od, .func (fnOf nm qual params (st1 :: st2 :: st3 :: st4 :: st5 :: body) scope dV kV doc pm an cdv ct), osl⟩)
    (B : Below callerA base [] h₀) (X : (Mine.k0.heap_1 w.params).In h₀) (T : Top Mine.view loose0 mean mg mb h₀)
    (F : Fr h₀ L h (fun v => if v = Str.ofString "numbers" then some (.ref aN) else if v = Str.ofString "third" then some (.int m3 s3) else if v = Str.ofString "second" then some (.int m2 s2) else if v = Str.ofString "first" then some (.int m1 s1) else u v))
    (N : News h₀ L h [(aN, listOf #[.int n1 q1, .int n2 q2] kN), (tM, tup3 m1 m2 m3 s1 s2 s3 kM), (L + 1, oM), (L + 1 + 1, oW), (L + 1 + 1 + 1, oO), (L + 1 + 1 + 1 + 1, oP), (L + 1 + 1 + 1 + 1 + 1, oF)])
    (hoM : oM.data = .cell (some (.ref tM))) (hoW : oW.data = .cell (some (.int (m1 * m2 * m3) tW))) (hoO : oO.data = .cell cO) (hoP : oP.data = .cell cP) (hoF : oF.data = .cell cF)
    (d1 : @LT.lt Nat _ (L + 1 + 1 + 1 + 1 + 1) aN) (d2 : @LT.lt Nat _ (L + 1 + 1 + 1 + 1 + 1) tM)
    (M : Menu m1 m2 m3 i1 i2 i3 o1 o2 o3) (S : SmlM m1 m2 m3 o1 o2 o3 ((m1 * m2 * m3).fdiv m1 * i1) ((m1 * m2 * m3).fdiv m2 * i2) ((m1 * m2 * m3).fdiv m3 * i3) n1 n2) (G : Late5 (Int.tmod n1 m1) (Int.tmod n1 m2) (Int.tmod n1 m3) (Int.tmod n2 m1) (Int.tmod n2 m2) (Int.tmod n2 m3) m1 m2 m3 o1 o2 o3 ((m1 * m2 * m3).fdiv m1 * i1) ((m1 * m2 * m3).fdiv m2 * i2) ((m1 * m2 * m3).fdiv m3 * i3) n1 n2)
    (hret : ∀ h' tk' m' l, Fr h₀ L h' m' → News h₀ L h' l → Q (.ret (.bool true)) { heap := h', gens := gens, drawn := drawn, toks := tk', os := os }) :
    wpAny (model PySem.Challenge.rw_xm0033_01.row.prog w) (callerA.deeper (envOfC qual scope L fa cdw)) (execs body (envOfC qual scope L fa cdw)) Q E { heap := h, gens := gens, drawn := drawn, toks := tk, os := os } := by
  have kf : (Mine.k0.heap_1 w.params).In h₀ ∧ PySem.Challenge.rw_xm0033_01.Holds → True := by
    k_fill
    exact fun _ => trivial
  clear kf
  refine' look_use hK ?e9 ?_
  case e9 => k_dflt k_is
  intro h2
  dsimp only [fnOf] at h2
  injection h2 with e1 e2 e3 e4
  injection e3 with e3
  injection e3 with f1 f2 f3 f4 f5 f6 f7 f8 f9 f10 f11 f12 f13 f14 f15
  injection f4 with f4
  injection f4 with gg0 f4
  injection f4 with gg1 f4
  injection f4 with gg2 f4
  injection f4 with gg3 f4
  injection f4 with gg4 f4
  subst f2 f4 f5
  clear hK e1 e2 e4 f1 f3 f6 f7 f8 f9 f10 f11 f12
  clear gg0 gg1 gg2 gg3 gg4
  clear f13 f14 f15
  refine wpAny_noRaise ?_
  obtain ⟨sm1, sm2, sm3, so1, so2, so3, sp1, sp2, sp3, sw, bn1, bn2⟩ := id S
  obtain ⟨a1, a1', a2, a2', a3, a3', aw, aw', v1, v2, v3, v4, v5, v6, mw1, mw2, mw3, mi1, mi2, mi3, mo1, mo2, mo3⟩ := id M

  walk_at "MINE law"
  (try dsimp only)
  rename News _ _ _ _ => N8
  refine ready_src (by rfl) (by k_asm) (tup := true) (xs := #[.int m1 s1, .int m2 s2, .int m3 s3]) (src_tup N8 (by k_mem)) (src_ne N8 (by k_mem)) (show 3 ≤ sizeLine by decide) (obsI [i1, i2, i3]) (obsI_ok _) (turn_name (by rfl) (by rfl) N8 (name3 ?w0 ?w1 ?w2)) (fin_int3 N8 ?_)
  case w0 => walk_at "MINE w1"
  case w1 => walk_at "MINE w1"
  case w2 => walk_at "MINE w1"
  clear N8
  intro D1 h1 tk1 x1 x2 x3 F1 N1 hlt1
  k_lt hlt1
  dsimp only
  walk_at "MINE law"
  (try dsimp only)
  rename News _ _ _ _ => N8
  refine ready_zip2 (by rfl) (by k_asm) (xs1 := #[.int m1 s1, .int m2 s2, .int m3 s3]) (xs2 := #[.int i1 x1, .int i2 x2, .int i3 x3]) (b1 := true) (b2 := false) (n := 3) (src_tup N8 (by k_mem)) (src_list N8 (by k_mem)) (src_ne N8 (by k_mem)) (src_ne N8 (by k_mem)) rfl rfl (by decide)
    (obsI [(m1 * m2 * m3).fdiv m1 * i1, (m1 * m2 * m3).fdiv m2 * i2, (m1 * m2 * m3).fdiv m3 * i3]) (obsI_ok _) (turn_pair (by rfl) (by rfl) (by rfl) (by rfl) (by decide) N8 (pair3 ?w0 ?w1 ?w2)) (fin_int3 N8 ?_)
  case w0 => walk_at "MINE w2"
  case w1 => walk_at "MINE w2"
  case w2 => walk_at "MINE w2"
  clear N8
  intro D2 h2 tk2 y1 y2 y3 F2 N2 hlt2
  k_lt hlt2
  dsimp only
  walk_at "MINE law"
  (try dsimp only)
  rename News _ _ _ _ => NX
  rename Fr _ _ _ _ => FX
  rename Obj.data _ = Data.cell (some (Value.ref _)) => hX
  refine' look_have (K := Mine.k0.heap_1 w.params) (a := 258) ?hk ?_
  case hk => k_dflt k_is
  intro hk0
  refine' law_r4 (cO := none) w mean mg mb hk0 B X T FX ?N hoM hoW hX hoP hoF d1 d2 ?d3 ?d4 S G hret
  case N => exact by_news NX (by walk_at "MINE sublist")
  case d3 => omega
  case d4 => omega
end
section
local macro_rules | `(tactic| walk_at "call ref") => `(tactic| (k_here; k_dflt (refine' ClmN.use (next_told_c _ _ _ _ _ _ _ _ _ _ _ _ (by assumption) (by assumption) ?n0 ?n1 ?n2 ?n3) ?k1 ?k2 ?k3 ?k4 ?kn ?kb ?k5 ?kK ?kr ?_; (case k1 => k_asm); (case k2 => k_asm); (case k3 => k_asm); (case k4 => k_asm); (case kn => k_all); (case kb => k_ne); (case k5 => k_asm); (case kK => exact rfl); (case kr => walk_at "MINE room"); (case n0 => decide); (case n1 => decide); (case n2 => assumption); (case n3 => assumption); (intro r9 t9 ts9 k9 h9 tk9 hr0 hr1 F9 N9); (try dsimp only); (try k_fold))))
section
open PySem PySem.W PyProof.Rows
open PyProof.Rows.LCg (lst NsObj)
set_option linter.unusedVariables false




local macro_rules | `(tactic| walk_at "MINE stop") => `(tactic| first | (with_reducible show wpAny _ _ (call (Value.type "zip") _) _ _ _) | (with_reducible show wpAny _ _ (pyIter _) _ _ _) | (with_reducible show wpAny _ _ (execs (Stmt.Assign _ (Expr.ListComp _ _ _ _) _ :: _) _) _ _ _))





theorem law_rest (w : World) (mean : ExcName → Option Value) (mg mb : Str → Option Value) {base h₀ h : Heap} {L fa b sl tM : Addr} {oc cdw cdv dV kV doc pm ct : Value} {od an : Option Addr} {osl : Array (Option Value)} {nm qual : Str} {params : Arguments} {st1 st2 : Stmt} {body : List Stmt} {scope : Scope}
    {m1 m2 m3 i1 i2 i3 o1 o2 o3 : Int} {ts s1 s2 s3 : Tok} {k ks kM tk : Nat} {u : Str → Option Value} {vs : List Value} {ns : List Int} {oM oW oO oP oF : Obj} {cW cO cP cF : Option Value} {gens : Array GenState} {drawn : Drawn} {os : OsState} {Q : Flow → Shared → Prop} {E : Value → Shared → Prop}
    (hK : (Mine.k0.heap_1 w.params).lookup 258 = some ⟨oc, od, .func (fnOf nm qual params (st1 :: st2 :: body) scope dV kV doc pm an cdv ct), osl⟩)
    (B : Below callerA base [] h₀) (X : (Mine.k0.heap_1 w.params).In h₀) (T : Top Mine.view loose0 mean mg mb h₀)
    (F : Fr h₀ L h (fun v => if v = Str.ofString "bag" then some (.ref b) else u v))
    (N : News h₀ L h [(b, bagO sl 1 ts k), (sl, scrO vs ks), (tM, tup3 m1 m2 m3 s1 s2 s3 kM), (L + 1, oM), (L + 1 + 1, oW), (L + 1 + 1 + 1, oO), (L + 1 + 1 + 1 + 1, oP), (L + 1 + 1 + 1 + 1 + 1, oF)])
    (hoM : oM.data = .cell (some (.ref tM))) (hoW : oW.data = .cell cW) (hoO : oO.data = .cell cO) (hoP : oP.data = .cell cP) (hoF : oF.data = .cell cF)
    (hI : IntsAre vs ns) (hlen : vs.length ≤ 63) (e1 : @Ne Nat b sl) (e2 : @Ne Nat b tM) (e3 : @Ne Nat sl tM) (d1 : @LT.lt Nat _ (L + 1 + 1 + 1 + 1 + 1) b) (d2 : @LT.lt Nat _ (L + 1 + 1 + 1 + 1 + 1) sl) (d3 : @LT.lt Nat _ (L + 1 + 1 + 1 + 1 + 1) tM)
    (M : Menu m1 m2 m3 i1 i2 i3 o1 o2 o3) (H : ∀ n1 n2 : Int, 0 ≤ n1 → n1 < m1 * m2 * m3 → 0 ≤ n2 → n2 < m1 * m2 * m3 → SmlM m1 m2 m3 o1 o2 o3 ((m1 * m2 * m3).fdiv m1 * i1) ((m1 * m2 * m3).fdiv m2 * i2) ((m1 * m2 * m3).fdiv m3 * i3) n1 n2 ∧ Late5 (Int.tmod n1 m1) (Int.tmod n1 m2) (Int.tmod n1 m3) (Int.tmod n2 m1) (Int.tmod n2 m2) (Int.tmod n2 m3) m1 m2 m3 o1 o2 o3 ((m1 * m2 * m3).fdiv m1 * i1) ((m1 * m2 * m3).fdiv m2 * i2) ((m1 * m2 * m3).fdiv m3 * i3) n1 n2)
    (hret : ∀ h' tk' m' l, Fr h₀ L h' m' → News h₀ L h' l → Q (.ret (.bool true)) { heap := h', gens := gens, drawn := drawn, toks := tk', os := os }) :
    wpAny (model PySem.Challenge.rw_xm0033_01.row.prog w) (callerA.deeper (envOfC qual scope L fa cdw)) (execs body (envOfC qual scope L fa cdw)) Q E { heap := h, gens := gens, drawn := drawn, toks := tk, os := os } := by
  have kf : (Mine.k0.heap_1 w.params).In h₀ ∧ PySem.Challenge.rw_xm0033_01.Holds → True := by
    k_fill
    exact fun _ => trivial
  clear kf
  refine' look_use hK ?e9 ?_
  case e9 => k_dflt k_is
  intro h2
  dsimp only [fnOf] at h2
  injection h2 with e1 e2 e3 e4
  injection e3 with e3
  injection e3 with f1 f2 f3 f4 f5 f6 f7 f8 f9 f10 f11 f12 f13 f14 f15
  injection f4 with f4
  injection f4 with gg0 f4
  injection f4 with gg1 f4
  subst f2 f4 f5
  clear hK e1 e2 e4 f1 f3 f6 f7 f8 f9 f10 f11 f12
  clear gg0 gg1
  clear f13 f14 f15
  refine wpAny_noRaise ?_
  obtain ⟨a1, a1', a2, a2', a3, a3', aw, aw', v1, v2, v3, v4, v5, v6, mw1, mw2, mw3, mi1, mi2, mi3, mo1, mo2, mo3⟩ := id M

  walk_at "MINE law"
  (try dsimp only)
  rename News _ _ _ _ => NX
  rename Fr _ _ _ _ => FX
  rename Obj.data _ = Data.cell (some (Value.int _ _)) => hX
  refine' look_have (K := Mine.k0.heap_1 w.params) (a := 258) ?hk ?_
  case hk => k_dflt k_is
  intro hk0
  refine' law_r2 w mean mg mb hk0 B X T FX ?N hoM hX hoO hoP hoF ?d1 d3 M ?S ?G hret
  case N => exact by_news NX (by walk_at "MINE sublist")
  case d1 => omega
  case S => exact (H _ _ (by assumption) (by assumption) (by assumption) (by assumption)).1
  case G => exact (H _ _ (by assumption) (by assumption) (by assumption) (by assumption)).2
end
section
open PySem PySem.W PyProof.Rows
open PyProof.Rows.LCg (lst NsObj)
set_option linter.unusedVariables false




local macro_rules | `(tactic| walk_at "MINE stop") => `(tactic| first | (with_reducible show wpAny _ _ (call (Value.type "zip") _) _ _ _) | (with_reducible show wpAny _ _ (pyIter _) _ _ _) | (with_reducible show wpAny _ _ (call (Value.ref 220) _) _ _ _) | (with_reducible show wpAny _ _ (execs (Stmt.Assign [Expr.Tuple _ _ _] _ _ :: _) _) _ _ _))





theorem law_s1 (w : World) (mean : ExcName → Option Value) (mg mb : Str → Option Value) {base h₀ h : Heap} {L fa b sl : Addr} {oc cdw cdv dV kV doc pm ct : Value} {od an : Option Addr} {osl : Array (Option Value)} {nm qual : Str} {params : Arguments} {st1 : Stmt} {body : List Stmt} {scope : Scope}
    {ts : Tok} {k ks tk : Nat} {u : Str → Option Value} {vs : List Value} {ns : List Int} {oM oW oO oP oF : Obj} {cM cW cO cP cF : Option Value} {gens : Array GenState} {drawn : Drawn} {os : OsState} {Q : Flow → Shared → Prop} {E : Value → Shared → Prop}
    (hK : (Mine.k0.heap_1 w.params).lookup 258 = some ⟨oc, od, .func (fnOf nm qual params (st1 :: body) scope dV kV doc pm an cdv ct), osl⟩)
    (B : Below callerA base [] h₀) (X : (Mine.k0.heap_1 w.params).In h₀) (T : Top Mine.view loose0 mean mg mb h₀)
    (F : Fr h₀ L h (fun v => if v = Str.ofString "bag" then some (.ref b) else u v))
    (N : News h₀ L h [(b, bagO sl 0 ts k), (sl, scrO vs ks), (L + 1, oM), (L + 1 + 1, oW), (L + 1 + 1 + 1, oO), (L + 1 + 1 + 1 + 1, oP), (L + 1 + 1 + 1 + 1 + 1, oF)])
    (hoM : oM.data = .cell cM) (hoW : oW.data = .cell cW) (hoO : oO.data = .cell cO) (hoP : oP.data = .cell cP) (hoF : oF.data = .cell cF)
    (hI : IntsAre vs ns) (hlen : vs.length ≤ 63) (e1 : @Ne Nat b sl) (d1 : @LT.lt Nat _ (L + 1 + 1 + 1 + 1 + 1) b) (d2 : @LT.lt Nat _ (L + 1 + 1 + 1 + 1 + 1) sl)
    (hret : ∀ h' tk' m' l, Fr h₀ L h' m' → News h₀ L h' l → Q (.ret (.bool true)) { heap := h', gens := gens, drawn := drawn, toks := tk', os := os }) :
    wpAny (model PySem.Challenge.rw_xm0033_01.row.prog w) (callerA.deeper (envOfC qual scope L fa cdw)) (execs body (envOfC qual scope L fa cdw)) Q E { heap := h, gens := gens, drawn := drawn, toks := tk, os := os } := by
  have kf : (Mine.k0.heap_1 w.params).In h₀ ∧ PySem.Challenge.rw_xm0033_01.Holds → True := by
    k_fill
    exact fun _ => trivial
  clear kf
  refine' look_use hK ?e9 ?_
  case e9 => k_dflt k_is
  intro h2
  dsimp only [fnOf] at h2
  injection h2 with e1 e2 e3 e4
  injection e3 with e3
  injection e3 with f1 f2 f3 f4 f5 f6 f7 f8 f9 f10 f11 f12 f13 f14 f15
  injection f4 with f4
  injection f4 with gg0 f4
  subst f2 f4 f5
  clear hK e1 e2 e4 f1 f3 f6 f7 f8 f9 f10 f11 f12
  clear gg0
  clear f13 f14 f15
  refine wpAny_noRaise ?_

  walk_at "MINE law"
  (try dsimp only)
  rename News _ _ _ _ => N8
  have N9 := news_pick (p := (b, bagO sl 0 ts k)) (q := (sl, scrO vs ks)) 6 N8 rfl
  simp only [List.take_succ_cons, List.take_zero, List.cons_append, List.nil_append] at N9
  clear N8
  refine' ClmN.use (next_told_c _ _ _ _ _ _ _ _ _ _ _ _ hI hlen ?n0 ?n1 ?n2 ?n3) ?k1 ?k2 ?k3 N9 ?kn ?kb ?k5 ?kK ?kr ?_
  case n0 => decide
  case n1 => decide
  case n2 => decide
  case n3 => decide
  case k1 => k_asm
  case k2 => k_asm
  case k3 => k_asm
  case kn =>
    intro p hp
    simp only [List.mem_cons, List.not_mem_nil, or_false] at hp
    rcases hp with rfl | rfl | rfl | rfl | rfl | rfl | rfl | rfl | rfl | rfl | rfl <;> (intro e; have e' : @Eq Nat _ _ := e; dsimp only at e'; omega)
  case kb => exact fun e => e1 e.symm
  case k5 => k_asm
  case kK => exact rfl
  case kr => walk_at "MINE room"
  clear N9
  intro r9 t9 ts9 k9 h9 tk9 hr0 hr1 F9 N9
  dsimp only
  have hc : r9 = 0 ∨ r9 = 1 ∨ r9 = 2 ∨ r9 = 3 ∨ r9 = 4 := by omega
  rcases hc with rfl | rfl | rfl | rfl | rfl
  · refine my_item N9 (by walk_at "MINE mem") (by decide) (by decide) rfl ?_ (by with_unfolding_all rfl)
    (try dsimp only)
    walk_at "MINE law"
    (try dsimp only)
    rename News _ _ _ _ => NX
    rename Fr _ _ _ _ => FX
    rename Obj.data _ = Data.cell (some (Value.ref _)) => hX
    refine' look_have (K := Mine.k0.heap_1 w.params) (a := 258) ?hk ?_
    case hk => k_dflt k_is
    intro hk0
    refine' law_rest w mean mg mb hk0 B X T FX ?N hX hoW hoO hoP hoF hI hlen e1 ?e2 ?e3 d1 d2 ?d3 menu0 full0 hret
    case N => exact by_news NX (by walk_at "MINE sublist")
    case e2 => intro e; have e' : @Eq Nat _ _ := e; omega
    case e3 => intro e; have e' : @Eq Nat _ _ := e; omega
    case d3 => omega
  · refine my_item N9 (by walk_at "MINE mem") (by decide) (by decide) rfl ?_ (by with_unfolding_all rfl)
    (try dsimp only)
    walk_at "MINE law"
    (try dsimp only)
    rename News _ _ _ _ => NX
    rename Fr _ _ _ _ => FX
    rename Obj.data _ = Data.cell (some (Value.ref _)) => hX
    refine' look_have (K := Mine.k0.heap_1 w.params) (a := 258) ?hk ?_
    case hk => k_dflt k_is
    intro hk0
    refine' law_rest w mean mg mb hk0 B X T FX ?N hX hoW hoO hoP hoF hI hlen e1 ?e2 ?e3 d1 d2 ?d3 menu1 full1 hret
    case N => exact by_news NX (by walk_at "MINE sublist")
    case e2 => intro e; have e' : @Eq Nat _ _ := e; omega
    case e3 => intro e; have e' : @Eq Nat _ _ := e; omega
    case d3 => omega
  · refine my_item N9 (by walk_at "MINE mem") (by decide) (by decide) rfl ?_ (by with_unfolding_all rfl)
    (try dsimp only)
    walk_at "MINE law"
    (try dsimp only)
    rename News _ _ _ _ => NX
    rename Fr _ _ _ _ => FX
    rename Obj.data _ = Data.cell (some (Value.ref _)) => hX
    refine' look_have (K := Mine.k0.heap_1 w.params) (a := 258) ?hk ?_
    case hk => k_dflt k_is
    intro hk0
    refine' law_rest w mean mg mb hk0 B X T FX ?N hX hoW hoO hoP hoF hI hlen e1 ?e2 ?e3 d1 d2 ?d3 menu2 full2 hret
    case N => exact by_news NX (by walk_at "MINE sublist")
    case e2 => intro e; have e' : @Eq Nat _ _ := e; omega
    case e3 => intro e; have e' : @Eq Nat _ _ := e; omega
    case d3 => omega
  · refine my_item N9 (by walk_at "MINE mem") (by decide) (by decide) rfl ?_ (by with_unfolding_all rfl)
    (try dsimp only)
    walk_at "MINE law"
    (try dsimp only)
    rename News _ _ _ _ => NX
    rename Fr _ _ _ _ => FX
    rename Obj.data _ = Data.cell (some (Value.ref _)) => hX
    refine' look_have (K := Mine.k0.heap_1 w.params) (a := 258) ?hk ?_
    case hk => k_dflt k_is
    intro hk0
    refine' law_rest w mean mg mb hk0 B X T FX ?N hX hoW hoO hoP hoF hI hlen e1 ?e2 ?e3 d1 d2 ?d3 menu3 full3 hret
    case N => exact by_news NX (by walk_at "MINE sublist")
    case e2 => intro e; have e' : @Eq Nat _ _ := e; omega
    case e3 => intro e; have e' : @Eq Nat _ _ := e; omega
    case d3 => omega
  · refine my_item N9 (by walk_at "MINE mem") (by decide) (by decide) rfl ?_ (by with_unfolding_all rfl)
    (try dsimp only)
    walk_at "MINE law"
    (try dsimp only)
    rename News _ _ _ _ => NX
    rename Fr _ _ _ _ => FX
    rename Obj.data _ = Data.cell (some (Value.ref _)) => hX
    refine' look_have (K := Mine.k0.heap_1 w.params) (a := 258) ?hk ?_
    case hk => k_dflt k_is
    intro hk0
    refine' law_rest w mean mg mb hk0 B X T FX ?N hX hoW hoO hoP hoF hI hlen e1 ?e2 ?e3 d1 d2 ?d3 menu4 full4 hret
    case N => exact by_news NX (by walk_at "MINE sublist")
    case e2 => intro e; have e' : @Eq Nat _ _ := e; omega
    case e3 => intro e; have e' : @Eq Nat _ _ := e; omega
    case d3 => omega
end
end
section
open PySem PySem.W PyProof.Rows
open PyProof.Rows.LCg (lst NsObj)
set_option linter.unusedVariables false




local macro_rules | `(tactic| walk_at "MINE stop") => `(tactic| first | (with_reducible show wpAny _ _ (call (Value.type "zip") _) _ _ _) | (with_reducible show wpAny _ _ (pyIter _) _ _ _) | (with_reducible show wpAny _ _ (execs (Stmt.Assign _ (Expr.Subscript (Expr.List _ _) _ _) _ :: _) _) _ _ _))





theorem law1 : PySem.Challenge.rw_xm0033_01.Holds := Mine.hd.2 (by
  delta Mine.hd
  dsimp only
  k_go0
  (all_goals try k_fold)
  walk_at "MINE law"
  rename World => w0
  rename News _ _ _ _ => NX
  rename Fr _ _ _ _ => FX
  refine' look_have2 (K := Mine.k0.heap_1 w0.params) (a := 258) ?kx ?hk ?_
  case kx => k_asm
  case hk => k_dflt k_is
  intro hk0
  refine' law_s1 w0 _ _ _ ?hK ?B ?kx ?kt ?F ?N ?hM ?hW ?hO ?hP ?hF ?hI ?hlen ?e1 ?d1 ?d2 ?hret
  case hK => exact hk0
  case kx => with_reducible assumption
  case F => exact FX
  case B => exact below_caller _
  case kt => with_reducible assumption
  case N => exact by_news NX (by walk_at "MINE sublist")
  case hM => with_reducible assumption
  case hW => with_reducible assumption
  case hO => with_reducible assumption
  case hP => with_reducible assumption
  case hF => with_reducible assumption
  case hI => with_reducible assumption
  case hlen =>
    have q := IntsAre.length ‹IntsAre _ (List.take 3 _)›
    simp only [List.length_take] at q
    omega
  case e1 => intro e; have e' : @Eq Nat _ _ := e; omega
  case d1 => omega
  case d2 => omega
  case hret =>
    intro h' tk' m' l F N
    (k_end; kc_close))
end
end
end Mine
set_option maxHeartbeats 4000000 in
theorem PySem.Challenge.cw_xm0033_01_holds : PySem.Challenge.rw_xm0033_01.Holds := by
  exact Mine.law1
