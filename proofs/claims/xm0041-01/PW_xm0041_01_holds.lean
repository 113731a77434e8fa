import PyProof.Rows.All
import Wide.All
import OpenK.AllK
import Wide.FinOn
import PySem.Challenge.RW_xm0041_01
set_option Elab.async false
set_option maxRecDepth 100000
set_option maxHeartbeats 8000000
section
open PySem PySem.W PyProof.Rows
namespace Mine
section
local macro_rules | `(tactic| o_head $H) => `(tactic| (have _ := $H; assumption))
/-- lets the library write out the part of the heap that the walk knows, as a constant -/
theorem frag (h : (OpenLaw.row PySem.Challenge.rw_xm0041_01).Holds) : (OpenLaw.row PySem.Challenge.rw_xm0041_01).Holds := by k_head
end
noncomputable section
abbrev PR : Program := PySem.Challenge.pw_xm0041_01
/-- the rows of the text that the walk may read: all but the six that name a module -/
def vw : Program := view PR ((List.range 61).filter fun i => !([0, 15, 28, 40, 47, 52].contains i))
/-- the object at an address behind the top -/
def ob (P : Params) (a : Nat) : Obj := match List.lookup a (Mine.frag.heap_1 P) with
  | some o => o
  | none => default
/-- what the making of a def's code leaves beside it -/
def cp (P : Params) (a : Nat) : Obj := match (ob P a).data with
  | .func f => { cls := .none, data := .func { name := f.name, qualname := f.qualname, params := f.params, body := f.body, scope := f.scope, globals := 0, closure := [], defaults := .none, kwdefaults := .none } }
  | _ => default
def n1 : Obj := { cls := .type "tuple", data := .seq #[] 0 }
def n2 : Obj := { cls := .none, data := .fields #[] }
def n3 : Obj := { cls := .type "code", data := .fields #[.str "<module>" 182, .str "<module>" 183, .str "/claim/cut.py" 184, .int 1 0, .int 0 0, .int 0 0, .int 0 0, .int 0 0, .ref 11, .bool false, .int 181 0, .ref 12, .none, .none, .none, .none, .int 185 0, .int 1 0, .str "/claim/cut.py" 186] }
def n4 : Obj := { cls := .type "frame", data := .plain, slots := #[some (.ref 13), some (.ref 3), some (.ref 3), none, some (.str "__main__" 164), none, some (.ref 0)] }
def n6 : Obj := { cls := .type "builtin_function_or_method", data := .fields #[.builtin "type.__prepare__", .type "type"] }
/-- the text that the n-th row of the top hands to a name -/
def said (i : Nat) : Str := match PR.main.body[i]? with
  | some (.Assign _ (.Constant (.str x) _ _) _) => x
  | _ => default
def kd (P : Params) (x : Str) (tk : Nat) (v : Value) : DictEntry := ⟨PyData.keyHash P x, .str x tk, v⟩
/-- the class's names while its body runs -/
def n7 (P : Params) : Obj := { cls := .type "dict", data := .dict #[kd P "__module__" 200 (.str (said 0) 187), kd P "__qualname__" 202 (.str "BasicError" 201), kd P "__firstlineno__" 204 (.int 4 203), kd P "__init__" 215 (.ref 31), kd P "__static_attributes__" 218 (.ref 32), kd P "__classcell__" 219 (.ref 18)] 6 }
def n8 : Obj := { cls := .none, data := .fields #[.int 6 0, .int 4 0, .ref 30] }
def n9 : Obj := { cls := .type "code", data := .fields #[.str "BasicError" 195, .str "BasicError" 196, .str "/claim/cut.py" 197, .int 4 0, .int 0 0, .int 0 0, .int 0 0, .int 0 0, .ref 19, .bool false, .int 181 0, .ref 20, .none, .none, .none, .none, .int 198 0, .int 4 0, .str "/claim/cut.py" 199] }
def n10 : Obj := { cls := .type "frame", data := .plain, slots := #[some (.ref 21), some (.ref 3), some (.ref 17), none, some (.str (said 0) 187), none, some (.ref 0)] }
def n11 : Obj := { cls := .type "super", data := .fields #[.ref 34, .ref 34, .ref 34] }
def n12 : Obj := { cls := .type "builtin_function_or_method", data := .fields #[.builtin "object.__init_subclass__", .ref 34] }
/-- the table of the codes made: line and code -/
def tabl : List (Int × Nat) := [(4, 21), (10, 43), (14, 50), (20, 57), (30, 64), (45, 71), (51, 78), (53, 85), (60, 92), (64, 99), (68, 106), (72, 113), (77, 121), (79, 128), (82, 135), (85, 142), (87, 149), (89, 156), (91, 163), (99, 170), (102, 177), (116, 184), (119, 191), (123, 198), (125, 205), (129, 212), (134, 219), (136, 226), (142, 233), (148, 240), (153, 247), (168, 254), (174, 261), (186, 270), (188, 277), (194, 284), (200, 289), (212, 296), (219, 303), (224, 310), (228, 317), (231, 324), (235, 331), (237, 338), (239, 345), (244, 352), (256, 359), (266, 364), (275, 369)]
def tabO (n : Nat) : Obj := { cls := .none, data := .fields ((tabl.take n).flatMap fun x => [Value.int x.1 0, .int 0 0, .ref x.2]).toArray }
/-- the names of the text when n of them stand, and the module is named as the i-th row says -/
def mainO (P : Params) (n i tk : Nat) : Obj := match (ob P 3).data with
  | .dict (⟨e :: es⟩) _ => { cls := .type "dict", data := .dict (⟨e.hash, e.key, .str (said i) tk⟩ :: es.take (n - 1)).toArray n }
  | _ => default
def lf (P : Params) : Life := (boot_heap P).life
def t0 (P : Params) : BT := (.node (boot_o_0 P) (.node (boot_o_1 P) (.node (boot_o_3 P) (.node (boot_o_7 P) .nil .nil) (.node n1 .nil .nil)) (.node (boot_o_5 P) (.node (boot_o_9 P) .nil .nil) (.node n3 .nil .nil))) (.node (boot_o_2 P) (.node (boot_o_4 P) (.node (boot_o_8 P) .nil .nil) (.node n2 .nil .nil)) (.node (boot_o_6 P) (.node (boot_o_10 P) .nil .nil) (.node n4 .nil .nil))))
def t1 (P : Params) : BT := (.node (boot_o_0 P) (.node (boot_o_1 P) (.node (mainO P 12 0 187) (.node (boot_o_7 P) (.node (ob P 15) (.node (ob P 31) .nil .nil) .nil) (.node (ob P 23) .nil .nil)) (.node n1 (.node n1 (.node (ob P 35) .nil .nil) .nil) (.node (ob P 27) .nil .nil))) (.node (boot_o_5 P) (.node (boot_o_9 P) (.node (n7 P) (.node (ob P 33) .nil .nil) .nil) (.node (ob P 25) .nil .nil)) (.node n3 (.node n9 (.node n12 .nil .nil) .nil) (.node (cp P 31) .nil .nil)))) (.node (ob P 2) (.node (boot_o_4 P) (.node (boot_o_8 P) (.node n6 (.node (ob P 32) .nil .nil) .nil) (.node (ob P 24) .nil .nil)) (.node (tabO 1) (.node n8 (.node n11 .nil .nil) .nil) (.node (ob P 28) .nil .nil))) (.node (boot_o_6 P) (.node (boot_o_10 P) (.node (ob P 18) (.node (ob P 34) .nil .nil) .nil) (.node n2 .nil .nil)) (.node n4 (.node n10 .nil .nil) (.node (ob P 30) .nil .nil)))))
def t2 (P : Params) : BT := (.node (boot_o_0 P) (.node (boot_o_1 P) (.node (mainO P 23 0 187) (.node (boot_o_7 P) (.node (ob P 15) (.node (ob P 31) (.node (cp P 65) .nil .nil) (.node n2 .nil .nil)) (.node (ob P 47) (.node (ob P 79) .nil .nil) (.node (ob P 111) .nil .nil))) (.node (ob P 23) (.node n2 (.node (ob P 71) .nil .nil) (.node (ob P 103) .nil .nil)) (.node (ob P 55) (.node (ob P 87) .nil .nil) .nil))) (.node n1 (.node n1 (.node (ob P 35) (.node n2 .nil .nil) (.node (ob P 99) .nil .nil)) (.node (ob P 51) (.node (ob P 83) .nil .nil) .nil)) (.node (ob P 27) (.node (ob P 43) (.node (ob P 75) .nil .nil) (.node (ob P 107) .nil .nil)) (.node (ob P 59) (.node (cp P 93) .nil .nil) .nil)))) (.node (boot_o_5 P) (.node (boot_o_9 P) (.node (n7 P) (.node (ob P 33) (.node (ob P 65) .nil .nil) (.node (ob P 97) .nil .nil)) (.node (cp P 51) (.node n2 .nil .nil) (.node (ob P 113) .nil .nil))) (.node (ob P 25) (.node (ob P 41) (.node (ob P 73) .nil .nil) (.node (cp P 107) .nil .nil)) (.node (ob P 57) (.node (ob P 89) .nil .nil) .nil))) (.node n3 (.node n9 (.node n12 (.node (ob P 69) .nil .nil) (.node (ob P 101) .nil .nil)) (.node n2 (.node (ob P 85) .nil .nil) .nil)) (.node (cp P 31) (.node (ob P 45) (.node (cp P 79) .nil .nil) (.node n2 .nil .nil)) (.node (ob P 61) (.node (ob P 93) .nil .nil) .nil))))) (.node (ob P 2) (.node (boot_o_4 P) (.node (boot_o_8 P) (.node n6 (.node (ob P 32) (.node (ob P 64) .nil .nil) (.node (ob P 96) .nil .nil)) (.node (ob P 48) (.node (ob P 80) .nil .nil) (.node (cp P 114) .nil .nil))) (.node (ob P 24) (.node (ob P 40) (.node (ob P 72) .nil .nil) (.node (ob P 104) .nil .nil)) (.node (cp P 58) (.node n2 .nil .nil) .nil))) (.node (tabO 12) (.node n8 (.node n11 (.node (ob P 68) .nil .nil) (.node (ob P 100) .nil .nil)) (.node (ob P 52) (.node (cp P 86) .nil .nil) .nil)) (.node (ob P 28) (.node (ob P 44) (.node (ob P 76) .nil .nil) (.node (ob P 108) .nil .nil)) (.node n2 (.node (ob P 92) .nil .nil) .nil)))) (.node (boot_o_6 P) (.node (boot_o_10 P) (.node (ob P 18) (.node (ob P 34) (.node (ob P 66) .nil .nil) (.node (cp P 100) .nil .nil)) (.node (ob P 50) (.node (ob P 82) .nil .nil) (.node (ob P 114) .nil .nil))) (.node n2 (.node (cp P 44) (.node n2 .nil .nil) (.node (ob P 106) .nil .nil)) (.node (ob P 58) (.node (ob P 90) .nil .nil) .nil))) (.node n4 (.node n10 (.node (ob P 38) (.node (cp P 72) .nil .nil) (.node n2 .nil .nil)) (.node (ob P 54) (.node (ob P 86) .nil .nil) .nil)) (.node (ob P 30) (.node n2 (.node (ob P 78) .nil .nil) (.node (ob P 110) .nil .nil)) (.node (ob P 62) (.node (ob P 94) .nil .nil) .nil))))))
def t3 (P : Params) : BT := (.node (boot_o_0 P) (.node (boot_o_1 P) (.node (mainO P 35 15 322) (.node (boot_o_7 P) (.node (ob P 15) (.node (ob P 31) (.node (cp P 65) (.node (cp P 129) .nil .nil) .nil) (.node n2 (.node n2 .nil .nil) .nil)) (.node (ob P 47) (.node (ob P 79) (.node (ob P 143) .nil .nil) .nil) (.node (ob P 111) (.node (ob P 175) .nil .nil) .nil))) (.node (ob P 23) (.node n2 (.node (ob P 71) (.node (ob P 135) .nil .nil) .nil) (.node (ob P 103) (.node (ob P 167) .nil .nil) .nil)) (.node (ob P 55) (.node (ob P 87) (.node (ob P 151) .nil .nil) .nil) (.node (ob P 119) (.node (cp P 185) .nil .nil) .nil)))) (.node n1 (.node n1 (.node (ob P 35) (.node n2 (.node n2 .nil .nil) .nil) (.node (ob P 99) (.node (ob P 163) .nil .nil) .nil)) (.node (ob P 51) (.node (ob P 83) (.node (ob P 147) .nil .nil) .nil) (.node (ob P 115) (.node (ob P 179) .nil .nil) .nil))) (.node (ob P 27) (.node (ob P 43) (.node (ob P 75) (.node (ob P 139) .nil .nil) .nil) (.node (ob P 107) (.node (ob P 171) .nil .nil) .nil)) (.node (ob P 59) (.node (cp P 93) (.node (cp P 157) .nil .nil) .nil) (.node (ob P 123) .nil .nil))))) (.node (boot_o_5 P) (.node (boot_o_9 P) (.node (n7 P) (.node (ob P 33) (.node (ob P 65) (.node (ob P 129) .nil .nil) .nil) (.node (ob P 97) (.node (ob P 161) .nil .nil) .nil)) (.node (cp P 51) (.node n2 (.node n2 .nil .nil) .nil) (.node (ob P 113) (.node (ob P 177) .nil .nil) .nil))) (.node (ob P 25) (.node (ob P 41) (.node (ob P 73) (.node (ob P 137) .nil .nil) .nil) (.node (cp P 107) (.node (cp P 171) .nil .nil) .nil)) (.node (ob P 57) (.node (ob P 89) (.node (ob P 153) .nil .nil) .nil) (.node (ob P 121) (.node (ob P 185) .nil .nil) .nil)))) (.node n3 (.node n9 (.node n12 (.node (ob P 69) (.node (ob P 133) .nil .nil) .nil) (.node (ob P 101) (.node (ob P 165) .nil .nil) .nil)) (.node n2 (.node (ob P 85) (.node (ob P 149) .nil .nil) .nil) (.node n2 (.node (ob P 181) .nil .nil) .nil))) (.node (cp P 31) (.node (ob P 45) (.node (cp P 79) (.node (cp P 143) .nil .nil) .nil) (.node n2 (.node n2 .nil .nil) .nil)) (.node (ob P 61) (.node (ob P 93) (.node (ob P 157) .nil .nil) .nil) (.node (ob P 125) .nil .nil)))))) (.node (ob P 2) (.node (boot_o_4 P) (.node (boot_o_8 P) (.node n6 (.node (ob P 32) (.node (ob P 64) (.node (ob P 128) .nil .nil) .nil) (.node (ob P 96) (.node (ob P 160) .nil .nil) .nil)) (.node (ob P 48) (.node (ob P 80) (.node (ob P 144) .nil .nil) .nil) (.node (cp P 114) (.node (cp P 178) .nil .nil) .nil))) (.node (ob P 24) (.node (ob P 40) (.node (ob P 72) (.node (ob P 136) .nil .nil) .nil) (.node (ob P 104) (.node (ob P 168) .nil .nil) .nil)) (.node (cp P 58) (.node n2 (.node n2 .nil .nil) .nil) (.node (cp P 122) (.node (ob P 184) .nil .nil) .nil)))) (.node (tabO 22) (.node n8 (.node n11 (.node (ob P 68) (.node (ob P 132) .nil .nil) .nil) (.node (ob P 100) (.node (ob P 164) .nil .nil) .nil)) (.node (ob P 52) (.node (cp P 86) (.node (cp P 150) .nil .nil) .nil) (.node (ob P 116) (.node n2 .nil .nil) .nil))) (.node (ob P 28) (.node (ob P 44) (.node (ob P 76) (.node (ob P 140) .nil .nil) .nil) (.node (ob P 108) (.node (ob P 172) .nil .nil) .nil)) (.node n2 (.node (ob P 92) (.node (ob P 156) .nil .nil) .nil) (.node n2 .nil .nil))))) (.node (boot_o_6 P) (.node (boot_o_10 P) (.node (ob P 18) (.node (ob P 34) (.node (ob P 66) (.node (ob P 130) .nil .nil) .nil) (.node (cp P 100) (.node (cp P 164) .nil .nil) .nil)) (.node (ob P 50) (.node (ob P 82) (.node (ob P 146) .nil .nil) .nil) (.node (ob P 114) (.node (ob P 178) .nil .nil) .nil))) (.node n2 (.node (cp P 44) (.node n2 (.node n2 .nil .nil) .nil) (.node (ob P 106) (.node (ob P 170) .nil .nil) .nil)) (.node (ob P 58) (.node (ob P 90) (.node (ob P 154) .nil .nil) .nil) (.node (ob P 122) .nil .nil)))) (.node n4 (.node n10 (.node (ob P 38) (.node (cp P 72) (.node (cp P 136) .nil .nil) .nil) (.node n2 (.node n2 .nil .nil) .nil)) (.node (ob P 54) (.node (ob P 86) (.node (ob P 150) .nil .nil) .nil) (.node (ob P 118) (.node (ob P 182) .nil .nil) .nil))) (.node (ob P 30) (.node n2 (.node (ob P 78) (.node (ob P 142) .nil .nil) .nil) (.node (ob P 110) (.node (ob P 174) .nil .nil) .nil)) (.node (ob P 62) (.node (ob P 94) (.node (ob P 158) .nil .nil) .nil) (.node (ob P 126) .nil .nil)))))))
def t4 (P : Params) : BT := (.node (boot_o_0 P) (.node (boot_o_1 P) (.node (mainO P 46 28 429) (.node (boot_o_7 P) (.node (ob P 15) (.node (ob P 31) (.node (cp P 65) (.node (cp P 129) (.node (ob P 255) .nil .nil) .nil) (.node (ob P 191) .nil .nil)) (.node n2 (.node n2 .nil .nil) (.node (ob P 223) .nil .nil))) (.node (ob P 47) (.node (ob P 79) (.node (ob P 143) .nil .nil) (.node (ob P 207) .nil .nil)) (.node (ob P 111) (.node (ob P 175) .nil .nil) (.node (cp P 241) .nil .nil)))) (.node (ob P 23) (.node n2 (.node (ob P 71) (.node (ob P 135) .nil .nil) (.node (ob P 199) .nil .nil)) (.node (ob P 103) (.node (ob P 167) .nil .nil) (.node (ob P 231) .nil .nil))) (.node (ob P 55) (.node (ob P 87) (.node (ob P 151) .nil .nil) (.node n2 .nil .nil)) (.node (ob P 119) (.node (cp P 185) .nil .nil) (.node (ob P 247) .nil .nil))))) (.node n1 (.node n1 (.node (ob P 35) (.node n2 (.node n2 (.node (ob P 259) .nil .nil) .nil) (.node (ob P 195) .nil .nil)) (.node (ob P 99) (.node (ob P 163) .nil .nil) (.node (ob P 227) .nil .nil))) (.node (ob P 51) (.node (ob P 83) (.node (ob P 147) .nil .nil) (.node (cp P 213) .nil .nil)) (.node (ob P 115) (.node (ob P 179) .nil .nil) (.node n2 .nil .nil)))) (.node (ob P 27) (.node (ob P 43) (.node (ob P 75) (.node (ob P 139) .nil .nil) (.node (ob P 203) .nil .nil)) (.node (ob P 107) (.node (ob P 171) .nil .nil) (.node (ob P 235) .nil .nil))) (.node (ob P 59) (.node (cp P 93) (.node (cp P 157) .nil .nil) (.node (ob P 219) .nil .nil)) (.node (ob P 123) (.node n2 .nil .nil) (.node (ob P 251) .nil .nil)))))) (.node (boot_o_5 P) (.node (boot_o_9 P) (.node (n7 P) (.node (ob P 33) (.node (ob P 65) (.node (ob P 129) (.node n2 .nil .nil) .nil) (.node (ob P 193) .nil .nil)) (.node (ob P 97) (.node (ob P 161) .nil .nil) (.node (cp P 227) .nil .nil))) (.node (cp P 51) (.node n2 (.node n2 .nil .nil) (.node (ob P 209) .nil .nil)) (.node (ob P 113) (.node (ob P 177) .nil .nil) (.node (ob P 241) .nil .nil)))) (.node (ob P 25) (.node (ob P 41) (.node (ob P 73) (.node (ob P 137) .nil .nil) (.node n2 .nil .nil)) (.node (cp P 107) (.node (cp P 171) .nil .nil) (.node (ob P 233) .nil .nil))) (.node (ob P 57) (.node (ob P 89) (.node (ob P 153) .nil .nil) (.node (ob P 217) .nil .nil)) (.node (ob P 121) (.node (ob P 185) .nil .nil) (.node (ob P 249) .nil .nil))))) (.node n3 (.node n9 (.node n12 (.node (ob P 69) (.node (ob P 133) (.node (ob P 261) .nil .nil) .nil) (.node (cp P 199) .nil .nil)) (.node (ob P 101) (.node (ob P 165) .nil .nil) (.node n2 .nil .nil))) (.node n2 (.node (ob P 85) (.node (ob P 149) .nil .nil) (.node (ob P 213) .nil .nil)) (.node n2 (.node (ob P 181) .nil .nil) (.node (ob P 245) .nil .nil)))) (.node (cp P 31) (.node (ob P 45) (.node (cp P 79) (.node (cp P 143) .nil .nil) (.node (ob P 205) .nil .nil)) (.node n2 (.node n2 .nil .nil) (.node (ob P 237) .nil .nil))) (.node (ob P 61) (.node (ob P 93) (.node (ob P 157) .nil .nil) (.node (ob P 221) .nil .nil)) (.node (ob P 125) (.node (ob P 189) .nil .nil) (.node (cp P 255) .nil .nil))))))) (.node (ob P 2) (.node (boot_o_4 P) (.node (boot_o_8 P) (.node n6 (.node (ob P 32) (.node (ob P 64) (.node (ob P 128) (.node (ob P 256) .nil .nil) .nil) (.node (ob P 192) .nil .nil)) (.node (ob P 96) (.node (ob P 160) .nil .nil) (.node (ob P 224) .nil .nil))) (.node (ob P 48) (.node (ob P 80) (.node (ob P 144) .nil .nil) (.node n2 .nil .nil)) (.node (cp P 114) (.node (cp P 178) .nil .nil) (.node (ob P 240) .nil .nil)))) (.node (ob P 24) (.node (ob P 40) (.node (ob P 72) (.node (ob P 136) .nil .nil) (.node (ob P 200) .nil .nil)) (.node (ob P 104) (.node (ob P 168) .nil .nil) (.node (cp P 234) .nil .nil))) (.node (cp P 58) (.node n2 (.node n2 .nil .nil) (.node (ob P 216) .nil .nil)) (.node (cp P 122) (.node (ob P 184) .nil .nil) (.node (ob P 248) .nil .nil))))) (.node (tabO 33) (.node n8 (.node n11 (.node (ob P 68) (.node (ob P 132) (.node (cp P 262) .nil .nil) .nil) (.node (ob P 196) .nil .nil)) (.node (ob P 100) (.node (ob P 164) .nil .nil) (.node (ob P 228) .nil .nil))) (.node (ob P 52) (.node (cp P 86) (.node (cp P 150) .nil .nil) (.node (ob P 212) .nil .nil)) (.node (ob P 116) (.node n2 .nil .nil) (.node (ob P 244) .nil .nil)))) (.node (ob P 28) (.node (ob P 44) (.node (ob P 76) (.node (ob P 140) .nil .nil) (.node (cp P 206) .nil .nil)) (.node (ob P 108) (.node (ob P 172) .nil .nil) (.node n2 .nil .nil))) (.node n2 (.node (ob P 92) (.node (ob P 156) .nil .nil) (.node (ob P 220) .nil .nil)) (.node n2 (.node (ob P 188) .nil .nil) (.node (ob P 252) .nil .nil)))))) (.node (boot_o_6 P) (.node (boot_o_10 P) (.node (ob P 18) (.node (ob P 34) (.node (ob P 66) (.node (ob P 130) (.node (ob P 258) .nil .nil) .nil) (.node n2 .nil .nil)) (.node (cp P 100) (.node (cp P 164) .nil .nil) (.node (ob P 226) .nil .nil))) (.node (ob P 50) (.node (ob P 82) (.node (ob P 146) .nil .nil) (.node (ob P 210) .nil .nil)) (.node (ob P 114) (.node (ob P 178) .nil .nil) (.node (ob P 242) .nil .nil)))) (.node n2 (.node (cp P 44) (.node n2 (.node n2 .nil .nil) (.node (ob P 202) .nil .nil)) (.node (ob P 106) (.node (ob P 170) .nil .nil) (.node (ob P 234) .nil .nil))) (.node (ob P 58) (.node (ob P 90) (.node (ob P 154) .nil .nil) (.node (cp P 220) .nil .nil)) (.node (ob P 122) (.node (ob P 186) .nil .nil) (.node n2 .nil .nil))))) (.node n4 (.node n10 (.node (ob P 38) (.node (cp P 72) (.node (cp P 136) (.node (ob P 262) .nil .nil) .nil) (.node (ob P 198) .nil .nil)) (.node n2 (.node n2 .nil .nil) (.node (ob P 230) .nil .nil))) (.node (ob P 54) (.node (ob P 86) (.node (ob P 150) .nil .nil) (.node (ob P 214) .nil .nil)) (.node (ob P 118) (.node (ob P 182) .nil .nil) (.node (cp P 248) .nil .nil)))) (.node (ob P 30) (.node n2 (.node (ob P 78) (.node (ob P 142) .nil .nil) (.node (ob P 206) .nil .nil)) (.node (ob P 110) (.node (ob P 174) .nil .nil) (.node (ob P 238) .nil .nil))) (.node (ob P 62) (.node (ob P 94) (.node (ob P 158) .nil .nil) (.node n2 .nil .nil)) (.node (ob P 126) (.node (cp P 192) .nil .nil) (.node (ob P 254) .nil .nil))))))))
def t5 (P : Params) : BT := (.node (boot_o_0 P) (.node (boot_o_1 P) (.node (mainO P 56 47 585) (.node (boot_o_7 P) (.node (ob P 15) (.node (ob P 31) (.node (cp P 65) (.node (cp P 129) (.node (ob P 255) .nil .nil) .nil) (.node (ob P 191) .nil .nil)) (.node n2 (.node n2 (.node n2 .nil .nil) .nil) (.node (ob P 223) .nil .nil))) (.node (ob P 47) (.node (ob P 79) (.node (ob P 143) (.node (ob P 271) .nil .nil) .nil) (.node (ob P 207) .nil .nil)) (.node (ob P 111) (.node (ob P 175) (.node (ob P 303) .nil .nil) .nil) (.node (cp P 241) .nil .nil)))) (.node (ob P 23) (.node n2 (.node (ob P 71) (.node (ob P 135) (.node (ob P 263) .nil .nil) .nil) (.node (ob P 199) .nil .nil)) (.node (ob P 103) (.node (ob P 167) (.node (cp P 297) .nil .nil) .nil) (.node (ob P 231) .nil .nil))) (.node (ob P 55) (.node (ob P 87) (.node (ob P 151) (.node (ob P 279) .nil .nil) .nil) (.node n2 .nil .nil)) (.node (ob P 119) (.node (cp P 185) (.node (ob P 311) .nil .nil) .nil) (.node (ob P 247) .nil .nil))))) (.node n1 (.node n1 (.node (ob P 35) (.node n2 (.node n2 (.node (ob P 259) .nil .nil) .nil) (.node (ob P 195) .nil .nil)) (.node (ob P 99) (.node (ob P 163) (.node (ob P 291) .nil .nil) .nil) (.node (ob P 227) .nil .nil))) (.node (ob P 51) (.node (ob P 83) (.node (ob P 147) (.node (ob P 275) .nil .nil) .nil) (.node (cp P 213) .nil .nil)) (.node (ob P 115) (.node (ob P 179) (.node (ob P 307) .nil .nil) .nil) (.node n2 .nil .nil)))) (.node (ob P 27) (.node (ob P 43) (.node (ob P 75) (.node (ob P 139) (.node (ob P 267) .nil .nil) .nil) (.node (ob P 203) .nil .nil)) (.node (ob P 107) (.node (ob P 171) (.node n2 .nil .nil) .nil) (.node (ob P 235) .nil .nil))) (.node (ob P 59) (.node (cp P 93) (.node (cp P 157) (.node (cp P 285) .nil .nil) .nil) (.node (ob P 219) .nil .nil)) (.node (ob P 123) (.node n2 (.node (ob P 315) .nil .nil) .nil) (.node (ob P 251) .nil .nil)))))) (.node (boot_o_5 P) (.node (boot_o_9 P) (.node (n7 P) (.node (ob P 33) (.node (ob P 65) (.node (ob P 129) (.node n2 .nil .nil) .nil) (.node (ob P 193) .nil .nil)) (.node (ob P 97) (.node (ob P 161) (.node (ob P 289) .nil .nil) .nil) (.node (cp P 227) .nil .nil))) (.node (cp P 51) (.node n2 (.node n2 (.node n2 .nil .nil) .nil) (.node (ob P 209) .nil .nil)) (.node (ob P 113) (.node (ob P 177) (.node (ob P 305) .nil .nil) .nil) (.node (ob P 241) .nil .nil)))) (.node (ob P 25) (.node (ob P 41) (.node (ob P 73) (.node (ob P 137) (.node (ob P 265) .nil .nil) .nil) (.node n2 .nil .nil)) (.node (cp P 107) (.node (cp P 171) (.node (ob P 297) .nil .nil) .nil) (.node (ob P 233) .nil .nil))) (.node (ob P 57) (.node (ob P 89) (.node (ob P 153) (.node (ob P 281) .nil .nil) .nil) (.node (ob P 217) .nil .nil)) (.node (ob P 121) (.node (ob P 185) (.node n2 .nil .nil) .nil) (.node (ob P 249) .nil .nil))))) (.node n3 (.node n9 (.node n12 (.node (ob P 69) (.node (ob P 133) (.node (ob P 261) .nil .nil) .nil) (.node (cp P 199) .nil .nil)) (.node (ob P 101) (.node (ob P 165) (.node (ob P 293) .nil .nil) .nil) (.node n2 .nil .nil))) (.node n2 (.node (ob P 85) (.node (ob P 149) (.node (ob P 277) .nil .nil) .nil) (.node (ob P 213) .nil .nil)) (.node n2 (.node (ob P 181) (.node (cp P 311) .nil .nil) .nil) (.node (ob P 245) .nil .nil)))) (.node (cp P 31) (.node (ob P 45) (.node (cp P 79) (.node (cp P 143) (.node (cp P 271) .nil .nil) .nil) (.node (ob P 205) .nil .nil)) (.node n2 (.node n2 (.node (ob P 301) .nil .nil) .nil) (.node (ob P 237) .nil .nil))) (.node (ob P 61) (.node (ob P 93) (.node (ob P 157) (.node (ob P 285) .nil .nil) .nil) (.node (ob P 221) .nil .nil)) (.node (ob P 125) (.node (ob P 189) (.node (ob P 317) .nil .nil) .nil) (.node (cp P 255) .nil .nil))))))) (.node (ob P 2) (.node (boot_o_4 P) (.node (boot_o_8 P) (.node n6 (.node (ob P 32) (.node (ob P 64) (.node (ob P 128) (.node (ob P 256) .nil .nil) .nil) (.node (ob P 192) .nil .nil)) (.node (ob P 96) (.node (ob P 160) (.node (cp P 290) .nil .nil) .nil) (.node (ob P 224) .nil .nil))) (.node (ob P 48) (.node (ob P 80) (.node (ob P 144) (.node (ob P 272) .nil .nil) .nil) (.node n2 .nil .nil)) (.node (cp P 114) (.node (cp P 178) (.node (ob P 304) .nil .nil) .nil) (.node (ob P 240) .nil .nil)))) (.node (ob P 24) (.node (ob P 40) (.node (ob P 72) (.node (ob P 136) (.node (ob P 264) .nil .nil) .nil) (.node (ob P 200) .nil .nil)) (.node (ob P 104) (.node (ob P 168) (.node (ob P 296) .nil .nil) .nil) (.node (cp P 234) .nil .nil))) (.node (cp P 58) (.node n2 (.node n2 (.node n2 .nil .nil) .nil) (.node (ob P 216) .nil .nil)) (.node (cp P 122) (.node (ob P 184) (.node (ob P 312) .nil .nil) .nil) (.node (ob P 248) .nil .nil))))) (.node (tabO 41) (.node n8 (.node n11 (.node (ob P 68) (.node (ob P 132) (.node (cp P 262) .nil .nil) .nil) (.node (ob P 196) .nil .nil)) (.node (ob P 100) (.node (ob P 164) (.node n2 .nil .nil) .nil) (.node (ob P 228) .nil .nil))) (.node (ob P 52) (.node (cp P 86) (.node (cp P 150) (.node (cp P 278) .nil .nil) .nil) (.node (ob P 212) .nil .nil)) (.node (ob P 116) (.node n2 (.node (ob P 308) .nil .nil) .nil) (.node (ob P 244) .nil .nil)))) (.node (ob P 28) (.node (ob P 44) (.node (ob P 76) (.node (ob P 140) (.node (ob P 268) .nil .nil) .nil) (.node (cp P 206) .nil .nil)) (.node (ob P 108) (.node (ob P 172) (.node (ob P 300) .nil .nil) .nil) (.node n2 .nil .nil))) (.node n2 (.node (ob P 92) (.node (ob P 156) (.node (ob P 284) .nil .nil) .nil) (.node (ob P 220) .nil .nil)) (.node n2 (.node (ob P 188) (.node (cp P 318) .nil .nil) .nil) (.node (ob P 252) .nil .nil)))))) (.node (boot_o_6 P) (.node (boot_o_10 P) (.node (ob P 18) (.node (ob P 34) (.node (ob P 66) (.node (ob P 130) (.node (ob P 258) .nil .nil) .nil) (.node n2 .nil .nil)) (.node (cp P 100) (.node (cp P 164) (.node (ob P 290) .nil .nil) .nil) (.node (ob P 226) .nil .nil))) (.node (ob P 50) (.node (ob P 82) (.node (ob P 146) (.node (ob P 274) .nil .nil) .nil) (.node (ob P 210) .nil .nil)) (.node (ob P 114) (.node (ob P 178) (.node n2 .nil .nil) .nil) (.node (ob P 242) .nil .nil)))) (.node n2 (.node (cp P 44) (.node n2 (.node n2 (.node n2 .nil .nil) .nil) (.node (ob P 202) .nil .nil)) (.node (ob P 106) (.node (ob P 170) (.node (ob P 298) .nil .nil) .nil) (.node (ob P 234) .nil .nil))) (.node (ob P 58) (.node (ob P 90) (.node (ob P 154) (.node (ob P 282) .nil .nil) .nil) (.node (cp P 220) .nil .nil)) (.node (ob P 122) (.node (ob P 186) (.node (ob P 314) .nil .nil) .nil) (.node n2 .nil .nil))))) (.node n4 (.node n10 (.node (ob P 38) (.node (cp P 72) (.node (cp P 136) (.node (ob P 262) .nil .nil) .nil) (.node (ob P 198) .nil .nil)) (.node n2 (.node n2 (.node (ob P 294) .nil .nil) .nil) (.node (ob P 230) .nil .nil))) (.node (ob P 54) (.node (ob P 86) (.node (ob P 150) (.node (ob P 278) .nil .nil) .nil) (.node (ob P 214) .nil .nil)) (.node (ob P 118) (.node (ob P 182) (.node (ob P 310) .nil .nil) .nil) (.node (cp P 248) .nil .nil)))) (.node (ob P 30) (.node n2 (.node (ob P 78) (.node (ob P 142) (.node (ob P 270) .nil .nil) .nil) (.node (ob P 206) .nil .nil)) (.node (ob P 110) (.node (ob P 174) (.node (cp P 304) .nil .nil) .nil) (.node (ob P 238) .nil .nil))) (.node (ob P 62) (.node (ob P 94) (.node (ob P 158) (.node (ob P 286) .nil .nil) .nil) (.node n2 .nil .nil)) (.node (ob P 126) (.node (cp P 192) (.node (ob P 318) .nil .nil) .nil) (.node (ob P 254) .nil .nil))))))))
def t6 (P : Params) : BT := (.node (boot_o_0 P) (.node (boot_o_1 P) (.node (mainO P 64 52 622) (.node (boot_o_7 P) (.node (ob P 15) (.node (ob P 31) (.node (cp P 65) (.node (cp P 129) (.node (ob P 255) .nil .nil) .nil) (.node (ob P 191) (.node (ob P 319) .nil .nil) .nil)) (.node n2 (.node n2 (.node n2 .nil .nil) .nil) (.node (ob P 223) (.node (cp P 353) .nil .nil) .nil))) (.node (ob P 47) (.node (ob P 79) (.node (ob P 143) (.node (ob P 271) .nil .nil) .nil) (.node (ob P 207) (.node (ob P 335) .nil .nil) .nil)) (.node (ob P 111) (.node (ob P 175) (.node (ob P 303) .nil .nil) .nil) (.node (cp P 241) (.node n2 .nil .nil) .nil)))) (.node (ob P 23) (.node n2 (.node (ob P 71) (.node (ob P 135) (.node (ob P 263) .nil .nil) .nil) (.node (ob P 199) (.node n2 .nil .nil) .nil)) (.node (ob P 103) (.node (ob P 167) (.node (cp P 297) .nil .nil) .nil) (.node (ob P 231) (.node (ob P 359) .nil .nil) .nil))) (.node (ob P 55) (.node (ob P 87) (.node (ob P 151) (.node (ob P 279) .nil .nil) .nil) (.node n2 (.node (ob P 343) .nil .nil) .nil)) (.node (ob P 119) (.node (cp P 185) (.node (ob P 311) .nil .nil) .nil) (.node (ob P 247) .nil .nil))))) (.node n1 (.node n1 (.node (ob P 35) (.node n2 (.node n2 (.node (ob P 259) .nil .nil) .nil) (.node (ob P 195) (.node (cp P 325) .nil .nil) .nil)) (.node (ob P 99) (.node (ob P 163) (.node (ob P 291) .nil .nil) .nil) (.node (ob P 227) (.node n2 .nil .nil) .nil))) (.node (ob P 51) (.node (ob P 83) (.node (ob P 147) (.node (ob P 275) .nil .nil) .nil) (.node (cp P 213) (.node (ob P 339) .nil .nil) .nil)) (.node (ob P 115) (.node (ob P 179) (.node (ob P 307) .nil .nil) .nil) (.node n2 .nil .nil)))) (.node (ob P 27) (.node (ob P 43) (.node (ob P 75) (.node (ob P 139) (.node (ob P 267) .nil .nil) .nil) (.node (ob P 203) (.node (ob P 331) .nil .nil) .nil)) (.node (ob P 107) (.node (ob P 171) (.node n2 .nil .nil) .nil) (.node (ob P 235) (.node (cp P 365) .nil .nil) .nil))) (.node (ob P 59) (.node (cp P 93) (.node (cp P 157) (.node (cp P 285) .nil .nil) .nil) (.node (ob P 219) (.node (ob P 347) .nil .nil) .nil)) (.node (ob P 123) (.node n2 (.node (ob P 315) .nil .nil) .nil) (.node (ob P 251) .nil .nil)))))) (.node (boot_o_5 P) (.node (boot_o_9 P) (.node (n7 P) (.node (ob P 33) (.node (ob P 65) (.node (ob P 129) (.node n2 .nil .nil) .nil) (.node (ob P 193) (.node (ob P 321) .nil .nil) .nil)) (.node (ob P 97) (.node (ob P 161) (.node (ob P 289) .nil .nil) .nil) (.node (cp P 227) (.node (ob P 353) .nil .nil) .nil))) (.node (cp P 51) (.node n2 (.node n2 (.node n2 .nil .nil) .nil) (.node (ob P 209) (.node (cp P 339) .nil .nil) .nil)) (.node (ob P 113) (.node (ob P 177) (.node (ob P 305) .nil .nil) .nil) (.node (ob P 241) (.node (ob P 369) .nil .nil) .nil)))) (.node (ob P 25) (.node (ob P 41) (.node (ob P 73) (.node (ob P 137) (.node (ob P 265) .nil .nil) .nil) (.node n2 (.node (ob P 329) .nil .nil) .nil)) (.node (cp P 107) (.node (cp P 171) (.node (ob P 297) .nil .nil) .nil) (.node (ob P 233) (.node (ob P 361) .nil .nil) .nil))) (.node (ob P 57) (.node (ob P 89) (.node (ob P 153) (.node (ob P 281) .nil .nil) .nil) (.node (ob P 217) (.node (ob P 345) .nil .nil) .nil)) (.node (ob P 121) (.node (ob P 185) (.node n2 .nil .nil) .nil) (.node (ob P 249) .nil .nil))))) (.node n3 (.node n9 (.node n12 (.node (ob P 69) (.node (ob P 133) (.node (ob P 261) .nil .nil) .nil) (.node (cp P 199) (.node (ob P 325) .nil .nil) .nil)) (.node (ob P 101) (.node (ob P 165) (.node (ob P 293) .nil .nil) .nil) (.node n2 (.node (ob P 357) .nil .nil) .nil))) (.node n2 (.node (ob P 85) (.node (ob P 149) (.node (ob P 277) .nil .nil) .nil) (.node (ob P 213) (.node n2 .nil .nil) .nil)) (.node n2 (.node (ob P 181) (.node (cp P 311) .nil .nil) .nil) (.node (ob P 245) .nil .nil)))) (.node (cp P 31) (.node (ob P 45) (.node (cp P 79) (.node (cp P 143) (.node (cp P 271) .nil .nil) .nil) (.node (ob P 205) (.node (ob P 333) .nil .nil) .nil)) (.node n2 (.node n2 (.node (ob P 301) .nil .nil) .nil) (.node (ob P 237) (.node (ob P 365) .nil .nil) .nil))) (.node (ob P 61) (.node (ob P 93) (.node (ob P 157) (.node (ob P 285) .nil .nil) .nil) (.node (ob P 221) (.node (ob P 349) .nil .nil) .nil)) (.node (ob P 125) (.node (ob P 189) (.node (ob P 317) .nil .nil) .nil) (.node (cp P 255) .nil .nil))))))) (.node (ob P 2) (.node (boot_o_4 P) (.node (boot_o_8 P) (.node n6 (.node (ob P 32) (.node (ob P 64) (.node (ob P 128) (.node (ob P 256) .nil .nil) .nil) (.node (ob P 192) (.node n2 .nil .nil) .nil)) (.node (ob P 96) (.node (ob P 160) (.node (cp P 290) .nil .nil) .nil) (.node (ob P 224) (.node (ob P 352) .nil .nil) .nil))) (.node (ob P 48) (.node (ob P 80) (.node (ob P 144) (.node (ob P 272) .nil .nil) .nil) (.node n2 (.node (ob P 336) .nil .nil) .nil)) (.node (cp P 114) (.node (cp P 178) (.node (ob P 304) .nil .nil) .nil) (.node (ob P 240) (.node (cp P 370) .nil .nil) .nil)))) (.node (ob P 24) (.node (ob P 40) (.node (ob P 72) (.node (ob P 136) (.node (ob P 264) .nil .nil) .nil) (.node (ob P 200) (.node (ob P 328) .nil .nil) .nil)) (.node (ob P 104) (.node (ob P 168) (.node (ob P 296) .nil .nil) .nil) (.node (cp P 234) (.node (ob P 360) .nil .nil) .nil))) (.node (cp P 58) (.node n2 (.node n2 (.node n2 .nil .nil) .nil) (.node (ob P 216) (.node (cp P 346) .nil .nil) .nil)) (.node (cp P 122) (.node (ob P 184) (.node (ob P 312) .nil .nil) .nil) (.node (ob P 248) .nil .nil))))) (.node (tabO 49) (.node n8 (.node n11 (.node (ob P 68) (.node (ob P 132) (.node (cp P 262) .nil .nil) .nil) (.node (ob P 196) (.node (ob P 324) .nil .nil) .nil)) (.node (ob P 100) (.node (ob P 164) (.node n2 .nil .nil) .nil) (.node (ob P 228) (.node (ob P 356) .nil .nil) .nil))) (.node (ob P 52) (.node (cp P 86) (.node (cp P 150) (.node (cp P 278) .nil .nil) .nil) (.node (ob P 212) (.node (ob P 340) .nil .nil) .nil)) (.node (ob P 116) (.node n2 (.node (ob P 308) .nil .nil) .nil) (.node (ob P 244) .nil .nil)))) (.node (ob P 28) (.node (ob P 44) (.node (ob P 76) (.node (ob P 140) (.node (ob P 268) .nil .nil) .nil) (.node (cp P 206) (.node (ob P 332) .nil .nil) .nil)) (.node (ob P 108) (.node (ob P 172) (.node (ob P 300) .nil .nil) .nil) (.node n2 (.node (ob P 364) .nil .nil) .nil))) (.node n2 (.node (ob P 92) (.node (ob P 156) (.node (ob P 284) .nil .nil) .nil) (.node (ob P 220) (.node n2 .nil .nil) .nil)) (.node n2 (.node (ob P 188) (.node (cp P 318) .nil .nil) .nil) (.node (ob P 252) .nil .nil)))))) (.node (boot_o_6 P) (.node (boot_o_10 P) (.node (ob P 18) (.node (ob P 34) (.node (ob P 66) (.node (ob P 130) (.node (ob P 258) .nil .nil) .nil) (.node n2 (.node (ob P 322) .nil .nil) .nil)) (.node (cp P 100) (.node (cp P 164) (.node (ob P 290) .nil .nil) .nil) (.node (ob P 226) (.node (ob P 354) .nil .nil) .nil))) (.node (ob P 50) (.node (ob P 82) (.node (ob P 146) (.node (ob P 274) .nil .nil) .nil) (.node (ob P 210) (.node (ob P 338) .nil .nil) .nil)) (.node (ob P 114) (.node (ob P 178) (.node n2 .nil .nil) .nil) (.node (ob P 242) (.node (ob P 370) .nil .nil) .nil)))) (.node n2 (.node (cp P 44) (.node n2 (.node n2 (.node n2 .nil .nil) .nil) (.node (ob P 202) (.node (cp P 332) .nil .nil) .nil)) (.node (ob P 106) (.node (ob P 170) (.node (ob P 298) .nil .nil) .nil) (.node (ob P 234) (.node n2 .nil .nil) .nil))) (.node (ob P 58) (.node (ob P 90) (.node (ob P 154) (.node (ob P 282) .nil .nil) .nil) (.node (cp P 220) (.node (ob P 346) .nil .nil) .nil)) (.node (ob P 122) (.node (ob P 186) (.node (ob P 314) .nil .nil) .nil) (.node n2 .nil .nil))))) (.node n4 (.node n10 (.node (ob P 38) (.node (cp P 72) (.node (cp P 136) (.node (ob P 262) .nil .nil) .nil) (.node (ob P 198) (.node (ob P 326) .nil .nil) .nil)) (.node n2 (.node n2 (.node (ob P 294) .nil .nil) .nil) (.node (ob P 230) (.node (cp P 360) .nil .nil) .nil))) (.node (ob P 54) (.node (ob P 86) (.node (ob P 150) (.node (ob P 278) .nil .nil) .nil) (.node (ob P 214) (.node (ob P 342) .nil .nil) .nil)) (.node (ob P 118) (.node (ob P 182) (.node (ob P 310) .nil .nil) .nil) (.node (cp P 248) .nil .nil)))) (.node (ob P 30) (.node n2 (.node (ob P 78) (.node (ob P 142) (.node (ob P 270) .nil .nil) .nil) (.node (ob P 206) (.node n2 .nil .nil) .nil)) (.node (ob P 110) (.node (ob P 174) (.node (cp P 304) .nil .nil) .nil) (.node (ob P 238) (.node (ob P 366) .nil .nil) .nil))) (.node (ob P 62) (.node (ob P 94) (.node (ob P 158) (.node (ob P 286) .nil .nil) .nil) (.node n2 (.node (ob P 350) .nil .nil) .nil)) (.node (ob P 126) (.node (cp P 192) (.node (ob P 318) .nil .nil) .nil) (.node (ob P 254) .nil .nil))))))))
def s0 (w : World) (os : OsState) : SharedT := ⟨t0 w.params, 15, lf w.params, Array.mk [], boot_drawn, 187, os⟩
def s1 (w : World) (os : OsState) : SharedT := ⟨t1 w.params, 38, lf w.params, Array.mk [], boot_drawn, 227, os⟩
def s2 (w : World) (os : OsState) : SharedT := ⟨t2 w.params, 115, lf w.params, Array.mk [], boot_drawn, 322, os⟩
def s3 (w : World) (os : OsState) : SharedT := ⟨t3 w.params, 186, lf w.params, Array.mk [], boot_drawn, 429, os⟩
def s4 (w : World) (os : OsState) : SharedT := ⟨t4 w.params, 263, lf w.params, Array.mk [], boot_drawn, 539, os⟩
def s5 (w : World) (os : OsState) : SharedT := ⟨t5 w.params, 319, lf w.params, Array.mk [], boot_drawn, 622, os⟩
def s6 (w : World) (os : OsState) : SharedT := ⟨t6 w.params, 371, lf w.params, Array.mk [], boot_drawn, 692, os⟩
def EN : Env := { scope := PR.main.scope, locals := mainNs, globals := mainNs, cells := [], code := .ref 13, frame := some 14 }
abbrev cb : Code := .body (behindTheImports PR) EN
def p0 : Pos := ⟨0, 0, 0, 0⟩
def g1 : List Stmt := (PR.main.body.drop 0).take 4
def p1 : Pos := ⟨4, 0, 9, 24⟩
def g2 : List Stmt := (PR.main.body.drop 4).take 11
def p2 : Pos := ⟨72, 0, 73, 29⟩
def g3 : List Stmt := (PR.main.body.drop 15).take 13
def p3 : Pos := ⟨116, 0, 117, 28⟩
def g4 : List Stmt := (PR.main.body.drop 28).take 12
def p4 : Pos := ⟨174, 0, 182, 66⟩
def g5 : List Stmt := (PR.main.body.drop 40).take 12
def p5 : Pos := ⟨228, 0, 229, 54⟩
def g6 : List Stmt := (PR.main.body.drop 52).take 9
def p6 : Pos := ⟨275, 0, 292, 16⟩
abbrev TF : List Frame := [topFrame p0]
theorem body_is : behindTheImports PR = g1 ++ (g2 ++ (g3 ++ (g4 ++ (g5 ++ (g6 ++ []))))) := by kernel_rfl
theorem open_is : opening PR = plainProg PR.main.scope.names := by kernel_rfl
theorem fence_is (s : Shared) : fenceModules? PR s = some s := by kernel_rfl
theorem pre_is (w : World) (os : OsState) : topGo treeTable PR w 11 (some (.ref 6)) 12 ⟨boot_heap w.params, Array.mk [], boot_drawn, boot_toks, os⟩ (topStub PR) = some ((s0 w os).abs, ⟨denote treeTable cb, cb, p0, TF⟩) := by kernel_rfl
theorem block_is (w : World) (os : OsState) : segRun treeTable PR w 11 (some (.ref 6)) 1 1 (s0 w os).abs (blockOf (behindTheImports PR) EN cb p0 TF) = some (.next, (s0 w os).abs, cb, p0) := by kernel_rfl
theorem run1 (w : World) (os : OsState) : segRunT treeTable PR w 11 (some (.ref 6)) 1 276 (s0 w os) (piecesOf g1 EN cb p0 TF) = some (.next, s1 w os, cb, p1) := by kernel_rfl
theorem run2 (w : World) (os : OsState) : segRunT treeTable PR w 11 (some (.ref 6)) 1 338 (s1 w os) (piecesOf g2 EN cb p1 TF) = some (.next, s2 w os, cb, p2) := by kernel_rfl
theorem run3 (w : World) (os : OsState) : segRunT treeTable PR w 11 (some (.ref 6)) 1 351 (s2 w os) (piecesOf g3 EN cb p2 TF) = some (.next, s3 w os, cb, p3) := by kernel_rfl
theorem run4 (w : World) (os : OsState) : segRunT treeTable PR w 11 (some (.ref 6)) 1 360 (s3 w os) (piecesOf g4 EN cb p3 TF) = some (.next, s4 w os, cb, p4) := by kernel_rfl
theorem run5 (w : World) (os : OsState) : segRunT treeTable PR w 11 (some (.ref 6)) 1 290 (s4 w os) (piecesOf g5 EN cb p4 TF) = some (.next, s5 w os, cb, p5) := by kernel_rfl
theorem run6 (w : World) (os : OsState) : segRunT treeTable PR w 11 (some (.ref 6)) 1 250 (s5 w os) (piecesOf g6 EN cb p5 TF) = some (.next, s6 w os, cb, p6) := by kernel_rfl
theorem fin_is (w : World) (os : OsState) : topRun treeTable PR w 11 (some (.ref 6)) 2 (s6 w os).abs ⟨doneF .next, cb, p6, TF⟩ = some (s6 w os).abs := by kernel_rfl
theorem run_all (w : World) (os : OsState) : topRun treeTable PR w 11 (some (.ref 6)) 1880 ⟨boot_heap w.params, Array.mk [], boot_drawn, boot_toks, os⟩ (topStub PR) = some (s6 w os).abs := by
  have h6 := piece_app (segRun_of (run6 w os)) (piece_nil (env := EN) (fin_is w os))
  have h5 := piece_app (segRun_of (run5 w os)) h6
  have h4 := piece_app (segRun_of (run4 w os)) h5
  have h3 := piece_app (segRun_of (run3 w os)) h4
  have h2 := piece_app (segRun_of (run2 w os)) h3
  have h1 := piece_app (segRun_of (run1 w os)) h2
  rw [← body_is] at h1
  have h0 := piece_block (block_is w os) h1
  have hh := go_top (pre_is w os) h0
  exact hh
def hp (P : Params) : Heap := absHeap (t6 P) 371 (lf P)
abbrev lo : List Str := [PySem.Str.ofString "BasicError"]
abbrev rr : RowW := OpenRow.toRowW (OpenLaw.row PySem.Challenge.rw_xm0041_01)
abbrev xt (s : Shared) : Bool := xlAt vw [] s && recOk (RowW.records rr) s

def addrs : List Addr := [2, 3, 15, 18, 23, 24, 25, 27, 28, 30, 31, 32, 33, 34, 35, 38, 40, 41, 43, 44, 45, 47, 48, 50, 51, 52, 54, 55, 57, 58, 59, 61, 62, 64, 65, 66, 68, 69, 71, 72, 73, 75, 76, 78, 79, 80, 82, 83, 85, 86] ++ ([87, 89, 90, 92, 93, 94, 96, 97, 99, 100, 101, 103, 104, 106, 107, 108, 110, 111, 113, 114, 115, 116, 118, 119, 121, 122, 123, 125, 126, 128, 129, 130, 132, 133, 135, 136, 137, 139, 140, 142, 143, 144, 146, 147, 149, 150, 151, 153, 154, 156] ++ ([157, 158, 160, 161, 163, 164, 165, 167, 168, 170, 171, 172, 174, 175, 177, 178, 179, 181, 182, 184, 185, 186, 188, 189, 191, 192, 193, 195, 196, 198, 199, 200, 202, 203, 205, 206, 207, 209, 210, 212, 213, 214, 216, 217, 219, 220, 221, 223, 224, 226] ++ ([227, 228, 230, 231, 233, 234, 235, 237, 238, 240, 241, 242, 244, 245, 247, 248, 249, 251, 252, 254, 255, 256, 258, 259, 261, 262, 263, 264, 265, 267, 268, 270, 271, 272, 274, 275, 277, 278, 279, 281, 282, 284, 285, 286, 289, 290, 291, 293, 294, 296] ++ ([297, 298, 300, 301, 303, 304, 305, 307, 308, 310, 311, 312, 314, 315, 317, 318, 319, 321, 322, 324, 325, 326, 328, 329, 331, 332, 333, 335, 336, 338, 339, 340, 342, 343, 345, 346, 347, 349, 350, 352, 353, 354, 356, 357, 359, 360, 361, 364, 365, 366] ++ ([369, 370])))))
theorem heap_is : ∀ P, addrs = (Mine.frag.heap_1 P).map (·.1) := fun P => by kernel_rfl
theorem size_is (w : World) : ((boot_heap w.params).isNs mainGlobals && (Array.mk [] : Array GenState).size == 0, (boot_heap w.params).objs.size, (boot_heap w.params).nsMap mainGlobals "__annotations__") = (true, 11, some (.ref 6)) := by kernel_rfl
theorem look1 (w : World) (os : OsState) : (staticsOk (importedModules PR.main.body) (boot_heap w.params) (hp w.params) && namesBound PR (hp w.params) && gensDone ⟨hp w.params, Array.mk [], boot_drawn, 692, os⟩ && laidKept (boot_heap w.params) (hp w.params)) = true := by kernel_rfl
theorem look2 (w : World) (os : OsState) : openSeen vw lo (importedModules PR.main.body) xt true ⟨hp w.params, Array.mk [], boot_drawn, 692, os⟩ = openGood vw lo := by kernel_rfl
theorem look3 (w : World) (os : OsState) : (kHook Mine.frag.heap_1 addrs heap_is).obs ⟨hp w.params, Array.mk [], boot_drawn, 692, os⟩ = (kHook Mine.frag.heap_1 addrs heap_is).val w := by kernel_rfl
theorem left : LeftO PR vw lo xt (kHook Mine.frag.heap_1 addrs heap_is).obs (kHook Mine.frag.heap_1 addrs heap_is).val 3844 :=
  LeftO.of_pieces (H₀ := boot_heap) (H₁ := hp) (boot_open open_is rfl fence_is) size_is (fun w os => run_all w os) rfl (fun w => funext fun os => Prod.ext (look1 w os) (Prod.ext (look2 w os) (look3 w os)))
section
set_option hygiene false in
local macro_rules | `(tactic| k_head) => `(tactic| (
  refine holds_open (d := ?d) (kwd := ?kwd) (q := vw) (loose := lo) (Xt := xt) (XP := XL vw []) (YP := (kHook Mine.frag.heap_1 addrs heap_is).says) (N := 3844) left (kHook Mine.frag.heap_1 addrs heap_is).of (kHook Mine.frag.heap_1 addrs heap_is).keeps (fun s e => xl_of s (Bool.and_eq_true_iff.mp e).1) XL.keeps ?hd ?hp ?hk (fun s e => recFacts_of (Bool.and_eq_true_iff.mp e).2) ?hwr (by assumption) ?h2 ?h3 ?hw ?hc
  (case hd => with_unfolding_all rfl)
  (case hp => as_aux_lemma => kernel_rfl)
  (case hk => rfl)
  (case hwr => rfl)
  (case h2 => as_aux_lemma => kernel_rfl)
  (case h3 => exact ⟨rfl, rfl, rfl, rfl, rfl, by decide +kernel⟩)))
open_top hd for PySem.Challenge.rw_xm0041_01
end
end
end Mine
end
section
open PySem PySem.W PyProof.Rows
namespace Mine

/-- where the walk is to stand still, for a rule given by hand -/
def Halt (P : Prop) : Prop := P
theorem Halt.mk {P : Prop} (h : Halt P) : P := h
theorem Halt.on {P : Prop} (h : P) : Halt P := h

/-- what a call of the def at f does in any frame of the law's: it keeps every object that stood, and hands back R -/
def Calls (w : World) (mean : ExcName → Option Value) (mg mb : Str → Option Value) (f : Addr) (vs : List Value) (room units : Nat) (P : Heap → Prop) (R : Value → Heap → Heap → Prop) : Prop :=
  ∀ (dp un : Nat) (gd : Option (List Code)) (cn : Str) (cs : Scope) (a : Addr) (ccd : Value) (cl : List (Str × Addr)) (outer : List Env) (A₀ : Around) (base h₀ : Heap) (L : Addr) (m : Str → Option Value) (s : Shared) (Q E : Value → Shared → Prop),
    Below A₀ base outer h₀ → Fr h₀ L s.heap m → (Mine.frag.heap_1 w.params).In h₀ → Top Mine.vw (looseW Mine.vw [Str.ofString "BasicError"]) mean mg mb h₀ → cs.kind = .function → P s.heap →
    dp + room < recursionLimit → un + units < cLine →
    (∀ r h' tk', (∀ b o, s.heap.get? b = some o → h'.get? b = some o) → R r s.heap h' → Q r { s with heap := h', toks := tk' }) →
    wpAny (model PySem.Challenge.rw_xm0041_01.row.prog w) (ktrTop dp un gd cn cs L a ccd cl outer) (call (.ref f) vs) Q E s

section
variable {prog : Program} {w : World} {A : Around} {E : Value → Shared → Prop} {s : Shared} {h₀ : Heap} {L : Addr} {m : Str → Option Value} {env : Env}
open LCg

def TupSrc (prog : Program) (w : World) (A : Around) (h₀ : Heap) (L : Addr) (m : Str → Option Value) (env : Env) (elt : PySem.Expr) (x : Str) (scope : Scope) (cl : List (Str × Addr)) (y : Str) (Q : Flow → Shared → Prop) (xv : Value) (s₁ : Shared) : Prop :=
  ∃ ax its k news, xv = .ref ax ∧ A.handled = none ∧ Fr h₀ L s₁.heap m ∧ News h₀ L s₁.heap news ∧ (ax, ({ cls := .type "tuple", data := .seq its k } : Obj)) ∈ news ∧ its.size ≤ sizeLine ∧
      ∀ g, CompRest prog w A h₀ L m env elt x scope cl { s₁ with heap := g } (fun nw => (ax, ({ cls := .type "tuple", data := .seq its k } : Obj)) ∈ nw) (fun i v => its[i]? = some v) (FinA h₀ L m { s₁ with heap := g } y Q) its.size 0 [] news
theorem TupSrc.mk {elt : PySem.Expr} {x y : Str} {scope : Scope} {cl : List (Str × Addr)} {Q : Flow → Shared → Prop} {ax : Addr} {its : Array Value} {k : Nat} {news : List (Addr × Obj)} {s₁ : Shared}
    (hh : A.handled = none) (F : Fr h₀ L s₁.heap m) (N : News h₀ L s₁.heap news) (hm : (ax, ({ cls := .type "tuple", data := .seq its k } : Obj)) ∈ news) (hsz : its.size ≤ sizeLine)
    (h : ∀ g, CompRest prog w A h₀ L m env elt x scope cl { s₁ with heap := g } (fun nw => (ax, ({ cls := .type "tuple", data := .seq its k } : Obj)) ∈ nw) (fun i v => its[i]? = some v) (FinA h₀ L m { s₁ with heap := g } y Q) its.size 0 [] news) :
    TupSrc prog w A h₀ L m env elt x scope cl y Q (.ref ax) s₁ := ⟨ax, its, k, news, rfl, hh, F, N, hm, hsz, h⟩

/-- a comprehension over a tuple of the ledger's, no test, its list stored under a local name -/
theorem comp_tuple {elt iter : PySem.Expr} {x y : Str} {px py : Pos} {scope : Scope} {cl : List (Str × Addr)} {pos spos : Pos} {Q : Flow → Shared → Prop} (_F₀ : Fr h₀ L s.heap m) (hLe : env.locals = L)
    (hsw : swapsWith (.ListComp elt [⟨.Name x px, iter, [], 0⟩] scope pos) (some (.Name y py)) spos.line env = pure true)
    (hclos : closureFor scope env = pure cl) (hcell : ∀ z ∈ scope.names, z.2 ≠ .cell) (hkind : scope.kind = .function)
    (hnames : ∀ z ∈ scope.names, z.2 = .local → scope.names.lookup z.1 = some .local) (hx : scope.names.lookup x = some .local)
    (hy : env.kindOf y = some .local) (hp : (env.scope.kind == .class || (env.scope.kind == .module && env.locals != env.globals)) = false)
    (h : wpAny (model prog w) A (eval iter env) (TupSrc prog w A h₀ L m env elt x scope cl y Q) E s)
    (hs : ∀ x, foldedSetIterable iter env x = pure x := by intro _; rfl) :
    wpAny (model prog w) A (exec (.Assign [.Name y py] (.ListComp elt [⟨.Name x px, iter, [], 0⟩] scope pos) spos) env) Q E s := by
  subst hLe
  rw [exec_Assign_Name_used _ _ _ _ hsw]
  refine wpAny_bind (wpAny_standAt (wpAny_bind ?_))
  show wpAny _ A (do let _ ← comprehension (.ListComp elt [⟨.Name x px, iter, [], 0⟩] scope pos) scope env _ (newList []) false (eval iter env) (some (assign (.Name y py) env))) _ _ s
  refine wpAny_bind (wpAny_mono (wpAny_comprehension_free (use := some (assign (.Name y py) env)) (Q := fun _ s' => Q .next s') rfl hs hclos hkind hnames
    (wpAny_mono h (fun xv s₁ h₁ => ?_) fun _ _ e => e)) (fun _ s' hq => wpAny_pure (wpAny_pure hq)) fun _ _ e => e)
  obtain ⟨ax, its, k, news, rfl, hh, F, N, S, hsz, R⟩ := h₁
  have hl : s₁.heap.IsTuple ax its := ⟨_, (N _ S).1, rfl, _, rfl⟩
  have hlt : ax < s₁.heap.objs.size := by obtain ⟨_, e, _⟩ := hl; exact Heap.lt_size e
  refine wpAny_pyIter_tuple hl ?_
  have up : ∀ b o, s₁.heap.get? b = some o → (s₁.heap.push { cls := .type "tuple_iterator", data := .fields #[.ref ax, .int 0 0] }).get? b = some o := fun b o e => Heap.get?_push_of_some _ e
  refine block_U (Walks.tuple hh s₁.heap.objs.size ax (Nat.ne_of_lt hlt) its) hsz (fun i h st => by obtain ⟨o, e, _⟩ := st.1; exact ⟨o, e⟩)
    (fun i h h' o nw st e e' _ N' S' => ⟨by obtain ⟨o', q, r⟩ := st.1; rw [e] at q; cases q; exact ⟨o, e', r⟩, ⟨_, (N' _ S').1, rfl, _, rfl⟩⟩)
    hcell hkind hx ⟨⟨_, Heap.get?_push_size _ rfl, rfl, rfl⟩, hl.push _⟩ (fun b hb => ?_)
    (F.keeps up) (N.grown up) (Nat.ne_of_lt F.ns.lt) (next_is_new F) (fun p hp => Nat.ne_of_lt (Heap.lt_size (N p hp).1)) S (R _) ?_
  · show b < (s₁.heap.push _).objs.size
    rw [Heap.size_push]
    rcases List.mem_cons.mp hb with rfl | hb
    · exact Nat.lt_succ_self _
    · rw [List.mem_singleton.mp hb]; exact Nat.lt_succ_of_lt hlt
  · intro D C h' tk m' ys news' F' N' o1 hn hC₀ hD₀ hCL hDL hCD offC fin
    show wpAny _ A (assign (.Name y py) env (.ref D)) _ _ _
    refine wpAny_assign_Name (wpAny_storeName_local hy F'.ns (fun h₂ hn₂ hs₂ => ?_) hp)
    have hL₀ : h₀.get? env.locals = none := Heap.get?_none_of_le F'.above
    have F₂ : Fr h₀ env.locals h₂ (fun z => if z = y then some (.ref D) else m z) := ⟨hn₂, fun b o e => hs₂.extBut b o (fun q => by rw [q, hL₀] at e; cases e) (F'.keep b o e), F'.above⟩
    refine ⟨m', hn.sameBut hs₂ hCL, fun h'' hs'' => fin D h'' _ (F₂.change hs'' hCL hC₀) (fun p hp => ?_) o1⟩
    have z : h₂.get? p.1 = some p.2 := hs₂.extBut _ _ (N' p hp).2.1 (N' p hp).1
    refine ⟨hs''.extBut _ _ ?_ z, (N' p hp).2⟩
    rcases List.mem_cons.mp hp with rfl | hp
    · exact Ne.symm hCD
    · exact offC p hp
end
theorem look264 (P : Params) : ∃ items n, (Mine.frag.heap_1 P).lookup 264 = some { cls := .type "tuple", data := .seq items n } ∧ StrsAre items.toList [Str.ofString "=", Str.ofString "<>", Str.ofString "<", Str.ofString ">", Str.ofString "<=", Str.ofString ">="] := by
  refine ⟨_, _, rfl, ?_⟩
  exact .cons _ _ (.cons _ _ (.cons _ _ (.cons _ _ (.cons _ _ (.cons _ _ .nil)))))
section
variable {w : World} {mean : ExcName → Option Value} {mg mb : Str → Option Value} {A : Around} {E : Value → Shared → Prop} {s : Shared} {h₀ : Heap} {L : Addr} {m : Str → Option Value} 
theorem in_comparisons {prog : Program} {P : Params} {u : Tok} {Q : Value → Shared → Prop} (X : (Mine.frag.heap_1 P).In h₀) (F : Fr h₀ L s.heap m) (h : Q (.bool true) s) : wpAny (model prog w) A (compareOp .In (.str (Str.ofString "<") u) (.ref 264)) Q E s := by
  obtain ⟨items, n, e, hs⟩ := look264 P
  exact in_tuple_strs ⟨_, F.keep _ _ (X _ _ e), rfl, _, rfl⟩ hs (by simpa using h)
end
end Mine
end
section
open PySem PySem.W PyProof.Rows
namespace Mine
theorem less_value (a b : List Nat) : ((if decide (b2i (decide (b < a)) - b2i (decide (a < b)) < 0) = (Str.ofString "<" == Str.ofString "<") then (-1 : Int) else 0) == 0 - 1) = decide (a < b) := by
  have e : (Str.ofString "<" == Str.ofString "<") = true := by decide +kernel
  rw [e]
  by_cases h1 : a < b
  · have h2 : ¬ b < a := fun h => absurd h (List.lt_asymm h1)
    simp [h1, h2, b2i]
  · by_cases h2 : b < a <;> simp [h1, h2, b2i]
section
local macro_rules | `(tactic| k_room) => `(tactic| ktr_room)
local macro_rules | `(tactic| k_units) => `(tactic| ktr_units)
local macro_rules | `(tactic| lcg_src) => `(tactic| ((try dsimp only); k_mem))
local macro_rules | `(tactic| walk_at "compareOp In str ref") => `(tactic| refine in_comparisons (by k_asm) (by k_asm) ?_)
local macro_rules | `(tactic| walk_at "exec Assign cons ListComp") => `(tactic| refine Halt.mk ?_)
theorem less_ok (w : World) (mean : ExcName → Option Value) (mg mb : Str → Option Value) (x y : Str) (tx ty : Tok) :
    Calls w mean mg mb 332 [.str x tx, .str y ty] 4 40 (fun _ => True) (fun r _ _ => r = .bool (decide (x.cps.toList < y.cps.toList))) := by
  unfold Calls
  k_fill
  intro dp un gd cn cs a ccd cl outer A₀ base h₀ L m s Q E B F X T hk hP hd hu hret
  have N : News h₀ L s.heap [] := News.nil
  refine wpAny_call ?_
  k_dflt (refine' code_defG ?k1 ?k2 ?k3 ?k4 ?k5 ?kA ?kF ?kK ?k6 ?k7 ?k8 ?k9 ?kB ?_ ?c2 ?c3 ?c4 ?c5; (case kA => exact rfl); (case kF => exact rfl); (case kK => assumption); (case k1 => k_asm); (case k2 => k_asm); (case k3 => k_asm); (case k4 => k_asm); (case k5 => k_asm); (case k6 => k_is); (case k7 => k_is); (case k8 => ktr_room); (case k9 => exact BindsTo.of_eq rfl); (case c5 => decide); (case kB => exact locs rfl); (case c2 => exact rfl); (case c3 => exact rfl); (case c4 => exact rfl); k_whole; intro g L' h' FG F' N' B' X' T' G; (try dsimp only); (try k_fold))
  have keepG : ∀ b o, s.heap.get? b = some o → g.get? b = some o := fun b o e => G b o e (fun hb => nomatch hb)
  clear G
  k_steps
  refine Halt.on ?_
  k_dflt (refine comp_tuple (by k_asm) (by rfl) (by with_unfolding_all rfl) (by rfl) (by decide) (by rfl) (by decide) (by rfl) (by rfl) (by rfl) ?_)
  k_steps
  k_dflt (refine TupSrc.mk (by rfl) (by k_asm) (by k_asm) (by k_mem) (by exact Nat.le_of_ble_eq_true rfl) ?_)
  intro g'
  lcg_lit
  k_steps
  refine hret _ _ _ (fun b o e => Fr.keep (h₀ := g) (by assumption) b o (keepG b o e)) ?_
  exact congrArg Value.bool (less_value _ _)
end
end Mine
end
section
open PySem PySem.W PyProof.Rows
namespace Mine
/-- the part of a text from i on, ahead of j -/
def sub (x : Str) (i j : Int) : Str := ⟨((x.cps.toList.drop i.toNat).take (j - i).toNat).toArray⟩
theorem slice_sub {x : Str} {i j : Int} (h0 : 0 ≤ i) (h1 : i ≤ j) (h2 : j ≤ (x.length : Int)) : Txt.slice x (some i) (some j) = sub x i j := eq_of_beq (slice_closesL h0 h1 h2)
section
local macro_rules | `(tactic| k_room) => `(tactic| ktr_room)
local macro_rules | `(tactic| k_units) => `(tactic| ktr_units)
theorem part_ok (w : World) (mean : ExcName → Option Value) (mg mb : Str → Option Value) (x : Str) (lo hi : Int) (tx t1 t2 : Tok) (h0 : 0 ≤ lo) (h1 : lo ≤ hi) (h2 : hi ≤ (x.length : Int)) (hx : x.length ≤ 100) :
    Calls w mean mg mb 339 [.str x tx, .int lo t1, .int hi t2] 4 40 (fun _ => True) (fun r _ _ => ∃ t, r = .str (sub x lo hi) t) := by
  unfold Calls
  k_fill
  intro dp un gd cn cs a ccd cl outer A₀ base h₀ L m s Q E B F X T hk hP hd hu hret
  have N : News h₀ L s.heap [] := News.nil
  refine wpAny_call ?_
  k_dflt (refine' code_defG ?k1 ?k2 ?k3 ?k4 ?k5 ?kA ?kF ?kK ?k6 ?k7 ?k8 ?k9 ?kB ?_ ?c2 ?c3 ?c4 ?c5; (case kA => exact rfl); (case kF => exact rfl); (case kK => assumption); (case k1 => k_asm); (case k2 => k_asm); (case k3 => k_asm); (case k4 => k_asm); (case k5 => k_asm); (case k6 => k_is); (case k7 => k_is); (case k8 => ktr_room); (case k9 => exact BindsTo.of_eq rfl); (case c5 => decide); (case kB => exact locs rfl); (case c2 => exact rfl); (case c3 => exact rfl); (case c4 => exact rfl); k_whole; intro g L' h' FG F' N' B' X' T' G; (try dsimp only); (try k_fold))
  have keepG : ∀ b o, s.heap.get? b = some o → g.get? b = some o := fun b o e => G b o e (fun hb => nomatch hb)
  clear G
  k_steps
  all_goals first | (exfalso; omega) | skip
  refine hret _ _ _ (fun b o e => Fr.keep (h₀ := g) (by assumption) b o (keepG b o e)) ?_
  have e : Txt.slice x (some (lo + 1 - 1)) (some (lo + 1 - 1 + (hi - lo))) = sub x lo hi := by
    have e1 : lo + 1 - 1 = lo := by omega
    have e2 : lo + (hi - lo) = hi := by omega
    rw [e1, e2, slice_sub h0 h1 h2]
  exact ⟨_, congrArg (fun y => Value.str y _) e⟩
end
end Mine
end
section
open PySem PySem.W PyProof.Rows
namespace Mine
theorem know {m : Str → Option Value} {k : Str} {v : Value} (h : m k = some v) : (fun y => if y = k then some v else m y) = m := by
  funext y
  by_cases e : y = k
  · rw [if_pos e, e, h]
  · rw [if_neg e]
theorem Fr_know {h₀ h : Heap} {L : Addr} {m : Str → Option Value} (k : Str) (v : Value) (F : Fr h₀ L h m) (e : m k = some v) : Fr h₀ L h (fun y => if y = k then some v else m y) := by
  rw [know e]; exact F

theorem Calls.use {w : World} {mean : ExcName → Option Value} {mg mb : Str → Option Value} {f : Addr} {vs : List Value} {room units : Nat} {P : Heap → Prop} {R : Value → Heap → Heap → Prop} (C : Calls w mean mg mb f vs room units P R)
    {dp un : Nat} {gd : Option (List Code)} {cn : Str} {cs : Scope} {a : Addr} {ccd : Value} {cl : List (Str × Addr)} {outer : List Env} {A₀ : Around} {base h₀ : Heap} {L : Addr} {m : Str → Option Value} {news : List (Addr × Obj)} {s : Shared} {Q E : Value → Shared → Prop}
    (B : Below A₀ base outer h₀) (F : Fr h₀ L s.heap m) (X : (Mine.frag.heap_1 w.params).In h₀) (N : News h₀ L s.heap news) (T : Top Mine.vw (looseW Mine.vw [Str.ofString "BasicError"]) mean mg mb h₀)
    (hk : cs.kind = .function) (hP : P s.heap) (hd : dp + room < recursionLimit) (hu : un + units < cLine)
    (h : ∀ r h' tk', Fr h₀ L h' m → News h₀ L h' news → (∀ b o, s.heap.get? b = some o → h'.get? b = some o) → R r s.heap h' → Q r { s with heap := h', toks := tk' }) :
    wpAny (model PySem.Challenge.rw_xm0041_01.row.prog w) (ktrTop dp un gd cn cs L a ccd cl outer) (call (.ref f) vs) Q E s :=
  C dp un gd cn cs a ccd cl outer A₀ base h₀ L m s Q E B F X T hk hP hd hu fun r h' tk' k hR =>
    h r h' tk' ⟨F.ns.keeps k, fun b o e => k b o (F.keep b o e), F.above⟩ (fun p hp => ⟨k _ _ (N p hp).1, (N p hp).2⟩) k hR

section
variable {prog : Program} {w : World} {A : Around} {E : Value → Shared → Prop} {s : Shared} {env : Env} {h₀ : Heap} {x : Str} {body : List Stmt} {Q : Flow → Shared → Prop}
theorem range_rest {I : Addr} {a : Int} {n : Nat} (J : Nat → (Str → Option Value) → List (Addr × Obj) → Prop)
    (turn : ∀ i m₁ news₁ t h tk, i < n → J i m₁ news₁ → Fr h₀ env.locals h (fun y => if y = x then some (.int (a + (i : Int)) t) else m₁ y) →
      News h₀ env.locals h ((I, itR (a + ((i + 1 : Nat) : Int)) ((n : Int) - ((i + 1 : Nat) : Int))) :: news₁) →
      wpAny (model prog w) A (execs body env) (UnrPost h₀ env.locals { s with heap := h, toks := tk } I (itR (a + ((i + 1 : Nat) : Int)) ((n : Int) - ((i + 1 : Nat) : Int))) (J (i + 1)) Q) E { s with heap := h, toks := tk })
    (done : ∀ m₁ news₁ h tk, J n m₁ news₁ → Fr h₀ env.locals h m₁ → News h₀ env.locals h news₁ → Q .next { s with heap := h, toks := tk }) :
    ∀ k i m₁ news₁, i + k = n → J i m₁ news₁ → RangeRest prog w A E h₀ env x body Q s I a n k i m₁ news₁ := by
  intro k
  induction k with
  | zero =>
    intro i m₁ news₁ hi hJ
    obtain rfl : i = n := by omega
    exact RangeRest.zero fun h tk F N => done m₁ news₁ h tk hJ F N
  | succ k ih =>
    intro i m₁ news₁ hi hJ
    refine RangeRest.succ fun t h tk F N => ?_
    refine wpAny_mono (turn i m₁ news₁ t h tk (by omega) hJ F N) (fun f s₂ p => ?_) fun _ _ e => e
    have up : UnrEnd h₀ env.locals { s with heap := h, toks := tk } I (itR (a + ((i + 1 : Nat) : Int)) ((n : Int) - ((i + 1 : Nat) : Int))) (J (i + 1)) s₂ →
        UnrEnd h₀ env.locals { s with heap := h, toks := tk } I (itR (a + ((i + 1 : Nat) : Int)) ((n : Int) - ((i + 1 : Nat) : Int))) (RangeRest prog w A E h₀ env x body Q s I a n k (i + 1)) s₂ := by
      rintro ⟨h', tk', m', news', e, F', N', off, hJ'⟩
      exact ⟨h', tk', m', news', e, F', N', off, ih (i + 1) m' news' (by omega) hJ'⟩
    cases f with
    | ret v => exact p
    | brk => exact p
    | next => exact up p
    | cont => exact up p

/-- a for over a range, by an invariant over the turn's number, the frame's map and the ledger -/
theorem for_range {r : Addr} {a₀ b₀ : Int} {t₀ u₀ v₀ : Tok} {n : Nat} {m₀ : Str → Option Value} {news : List (Addr × Obj)} (J : Nat → (Str → Option Value) → List (Addr × Obj) → Prop)
    (hh : A.handled = none) (hr : IsRange s.heap r a₀ b₀ 1 t₀ u₀ v₀) (hsmall : Builtin.Range.small a₀ b₀ 1 = true) (hn : Builtin.Range.rangeSize a₀ b₀ 1 = (n : Int)) (F : Fr h₀ env.locals s.heap m₀) (N : News h₀ env.locals s.heap news)
    (h0 : J 0 m₀ news)
    (turn : ∀ I i m₁ news₁ t h tk, i < n → J i m₁ news₁ → Fr h₀ env.locals h (fun y => if y = x then some (.int (a₀ + (i : Int)) t) else m₁ y) →
      News h₀ env.locals h ((I, itR (a₀ + ((i + 1 : Nat) : Int)) ((n : Int) - ((i + 1 : Nat) : Int))) :: news₁) →
      wpAny (model prog w) A (execs body env) (UnrPost h₀ env.locals { s with heap := h, toks := tk } I (itR (a₀ + ((i + 1 : Nat) : Int)) ((n : Int) - ((i + 1 : Nat) : Int))) (J (i + 1)) Q) E { s with heap := h, toks := tk })
    (done : ∀ m₁ news₁ h tk, J n m₁ news₁ → Fr h₀ env.locals h m₁ → News h₀ env.locals h news₁ → Q .next { s with heap := h, toks := tk }) :
    wpAny (model prog w) A (pyIter (.ref r)) (fun it s₂ => LoopAtV prog w A h₀ env x body Q E it s₂) E s :=
  iter_rangeUnr hh hr hsmall hn F N fun I _ => range_rest J (turn I) done n 0 m₀ news (by omega) h0
end
theorem range_n {a b : Int} {n : Nat} (hn : (n : Int) = max 0 (b - a)) : Builtin.Range.rangeSize a b 1 = (n : Int) := by
  unfold Builtin.Range.rangeSize
  simp only [Int.ediv_one]
  split <;> split <;> omega
theorem range_small {a b : Int} (h1 : -1000 ≤ a) (h2 : a ≤ 1000) (h3 : -1000 ≤ b) (h4 : b ≤ 1000) : Builtin.Range.small a b 1 = true := by
  have hs : Builtin.Range.rangeSize a b 1 = ((max 0 (b - a)).toNat : Int) := range_n (by omega)
  unfold Builtin.Range.small
  rw [hs]
  have f : ∀ i : Int, -3000 ≤ i → i ≤ 3000 → Builtin.Range.rangeFitsLong i = true := fun i h h' => by
    unfold Builtin.Range.rangeFitsLong
    simp only [Bool.and_eq_true, decide_eq_true_eq]
    omega
  rw [f a (by omega) (by omega), f b (by omega) (by omega), f 1 (by omega) (by omega), f _ (by omega) (by omega)]
  simp [f b (by omega) (by omega)]
theorem unr_end {h₀ : Heap} {L I : Addr} {it : Obj} {rest : (Str → Option Value) → List (Addr × Obj) → Prop} {s₁ : Shared} {h' : Heap} {tk : Nat} {m' : Str → Option Value} {all : List (Addr × Obj)} (nw : List (Addr × Obj)) (F : Fr h₀ L h' m') (N : News h₀ L h' all)
    (hI : (I, it) ∈ all) (sub : ∀ p ∈ nw, p ∈ all) (off : ∀ p ∈ nw, p.2.cls ≠ it.cls) (r : rest m' nw) : UnrEnd h₀ L s₁ I it rest { s₁ with heap := h', toks := tk } :=
  UnrEnd.intro F N nw (fun p hp => by
    rcases List.mem_cons.mp hp with rfl | hp
    · exact hI
    · exact sub p hp) (fun p hp e => by
    have h1 := (N _ (sub p hp)).1
    have h2 := (N _ hI).1
    rw [e] at h1
    exact off p hp (congrArg Obj.cls (Option.some.inj (h1.symm.trans h2)))) r

def WPost {σ : Type} (h₀ : Heap) (L : Addr) (s : Shared) (J : σ → (Str → Option Value) → List (Addr × Obj) → Prop) (μ : σ → Nat) (Q : Flow → Shared → Prop) (c : σ) (f : Flow) (s₂ : Shared) : Prop :=
  match f with
  | .ret v => Q (.ret v) s₂
  | .brk => Q .next s₂
  | _ => ∃ (c' : σ) (h' : Heap) (tk : Nat) (m' : Str → Option Value) (nw' : List (Addr × Obj)), s₂ = { s with heap := h', toks := tk } ∧ Fr h₀ L h' m' ∧ News h₀ L h' nw' ∧ J c' m' nw' ∧ μ c' < μ c
theorem WPost.next {σ : Type} {h₀ : Heap} {L : Addr} {s : Shared} {J : σ → (Str → Option Value) → List (Addr × Obj) → Prop} {μ : σ → Nat} {Q : Flow → Shared → Prop} {c : σ} {h' : Heap} {tk : Nat} {m' : Str → Option Value} {all : List (Addr × Obj)} (c' : σ) (nw : List (Addr × Obj))
    (F : Fr h₀ L h' m') (N : News h₀ L h' all) (sub : ∀ p ∈ nw, p ∈ all) (j : J c' m' nw) (d : μ c' < μ c) : WPost h₀ L s J μ Q c .next { s with heap := h', toks := tk } :=
  ⟨c', h', tk, m', nw, rfl, F, fun p hp => N p (sub p hp), j, d⟩
section
variable {prog : Program} {w : World} {A : Around} {E : Value → Shared → Prop} {Q : Flow → Shared → Prop} {s : Shared} {env : Env} {h₀ : Heap} {L : Addr}
/-- a while by an invariant over a datum of one's own, with a measure -/
theorem while_inv {σ : Type} {test : PySem.Expr} {body : List Stmt} {pos : Pos} {m₀ : Str → Option Value} {news : List (Addr × Obj)} (J : σ → (Str → Option Value) → List (Addr × Obj) → Prop) (μ : σ → Nat) (c₀ : σ)
    (F : Fr h₀ L s.heap m₀) (N : News h₀ L s.heap news) (h0 : J c₀ m₀ news)
    (turn : ∀ (c : σ) m₁ nw h tk, J c m₁ nw → Fr h₀ L h m₁ → News h₀ L h nw →
      wpAny (model prog w) A (isTrue test env (eval test env)) (fun b s₂ =>
        if b = true then wpAny (model prog w) A (execs body env) (WPost h₀ L s J μ Q c) E s₂ else Q .next s₂) E { s with heap := h, toks := tk })
    (hE : PassesOwn (model prog w) A env E := by passes_own) :
    wpAny (model prog w) A (exec (.While test body [] pos) env) Q E s := by
  refine While_inv2 (fun n m nx => ∃ c : σ, μ c = n ∧ J c m nx) F N ⟨c₀, rfl, h0⟩ ?_ hE
  rintro n m₁ nx h tk F₁ N₁ ⟨c, rfl, hj⟩
  refine wpAny_mono (turn c m₁ nx h tk hj F₁ N₁) (fun b s₂ p => ?_) fun _ _ x => x
  cases b with
  | false => simpa using p
  | true =>
    simp only [if_true] at p ⊢
    refine wpAny_mono p (fun f s₃ q => ?_) fun _ _ x => x
    cases f with
    | ret v => exact q
    | brk => exact q
    | next =>
      obtain ⟨c', h', tk', m', nw', rfl, F', N', j', d⟩ := q
      exact ⟨h', tk', m', nw', μ c', rfl, F', N', d, c', rfl, j'⟩
    | cont =>
      obtain ⟨c', h', tk', m', nw', rfl, F', N', j', d⟩ := q
      exact ⟨h', tk', m', nw', μ c', rfl, F', N', d, c', rfl, j'⟩
end
/-- an object that a call made, laid on the ledger -/
theorem news_new {h₀ h h' : Heap} {L D : Addr} {o : Obj} {m : Str → Option Value} {news : List (Addr × Obj)} (F : Fr h₀ L h m) (N : News h₀ L h' news) (h0 : h.get? D = none) (h1 : h'.get? D = some o) : News h₀ L h' ((D, o) :: news) := fun p hp => by
  rcases List.mem_cons.mp hp with rfl | hp
  · refine ⟨h1, fun e => ?_, ?_⟩
    · obtain ⟨oL, _, _, hL, _⟩ := F.ns
      have e' : D = L := e
      rw [e', hL] at h0; cases h0
    · cases q : h₀.get? D with
      | none => rfl
      | some o' => rw [F.keep _ _ q] at h0; cases h0
  · exact N p hp
theorem apart_new {h₀ h : Heap} {L D : Addr} {news : List (Addr × Obj)} (N : News h₀ L h news) (h0 : h.get? D = none) : ∀ p ∈ news, p.1 ≠ D := fun p hp e => by
  have := (N p hp).1; rw [e, h0] at this; cases this

def FrNews (h₀ : Heap) (L : Addr) (m : Str → Option Value) (nw : List (Addr × Obj)) (s₁ s₂ : Shared) : Prop := ∃ h' tk', s₂ = { s₁ with heap := h', toks := tk' } ∧ Fr h₀ L h' m ∧ News h₀ L h' nw
theorem FrNews.mk {h₀ h' : Heap} {L : Addr} {m : Str → Option Value} {nw all : List (Addr × Obj)} {s₁ : Shared} {tk : Nat} (F : Fr h₀ L h' m) (N : News h₀ L h' all) (sub : ∀ p ∈ nw, p ∈ all) : FrNews h₀ L m nw s₁ { s₁ with heap := h', toks := tk } := ⟨h', tk, rfl, F, fun p hp => N p (sub p hp)⟩
def TestPost (b : Bool) (T F : Prop) (ok : Bool) : Prop := (ok = true → b = true ∧ T) ∧ (ok = false → b = false ∧ F)
def ItemPost (v : Value) (P : Prop) (y : Value) : Prop := y = v ∧ P
def kept (a : Int) (p : Nat → Bool) (n : Nat) : List Int := ((List.range n).filter p).map fun k => a + ((k : Nat) : Int)
theorem kept_succ (a : Int) (p : Nat → Bool) (n : Nat) : kept a p (n + 1) = kept a p n ++ (if p n = true then [a + ((n : Nat) : Int)] else []) := by
  unfold kept
  rw [List.range_succ, List.filter_append, List.map_append]
  congr 1
  by_cases h : p n = true
  · rw [if_pos h, List.filter_cons_of_pos h]; rfl
  · rw [if_neg h, List.filter_cons_of_neg h]; rfl
theorem kept_nil {a : Int} {p : Nat → Bool} {n : Nat} : kept a p n = [] ↔ ∀ i, i < n → p i = false := by
  unfold kept
  rw [List.map_eq_nil_iff, List.filter_eq_nil_iff]
  simp
section
variable {prog : Program} {w : World} {A : Around} {s : Shared} {h₀ : Heap} {L : Addr} {m : Str → Option Value} {env : Env} {ct elt : PySem.Expr} {x : Str} {scope : Scope} {cl : List (Str × Addr)} {S : List (Addr × Obj) → Prop} {Fin : List Value → List (Addr × Obj) → Prop} {news : List (Addr × Obj)}
/-- a comprehension over a range with one test, its item the loop's own int -/
theorem rest_filter {a : Int} {n : Nat} (p : Nat → Bool) (hS : S news)
    (turn : ∀ i t ys I oI C oC D m₂ h tk (E' : Value → Shared → Prop), i < n → LCg.NsObj oC m₂ → m₂ x = some (.int (a + ((i : Nat) : Int)) t) → Fr h₀ L h m → News h₀ L h ((I, oI) :: (C, oC) :: (D, LCg.lst ys) :: news) → LCg.Off3 I C D news → ((@Ne Nat I C) ∧ (@Ne Nat I D) ∧ (@Ne Nat C D)) →
      wpAny (model prog w) A (isTrue ct (compEnvC scope cl C env) (eval ct (compEnvC scope cl C env))) (fun ok s' => TestPost (p i)
        (wpAny (model prog w) A (eval elt (compEnvC scope cl C env)) (fun y s'' => ItemPost (.int (a + ((i : Nat) : Int)) t) (FrNews h₀ L m ((I, oI) :: (C, oC) :: (D, LCg.lst ys) :: news) { s with heap := h, toks := tk } s'') y) E' s')
        (FrNews h₀ L m ((I, oI) :: (C, oC) :: (D, LCg.lst ys) :: news) { s with heap := h, toks := tk } s') ok) E' { s with heap := h, toks := tk })
    (fin : ∀ ys, IntsAre ys (kept a p n) → Fin ys news) : LCt.CompRestT prog w A h₀ L m env ct elt x scope cl s S (fun i v => ∃ t, v = .int (a + ((i : Nat) : Int)) t) Fin n 0 [] news := by
  have key : ∀ k i ys, i + k = n → IntsAre ys (kept a p i) → LCt.CompRestT prog w A h₀ L m env ct elt x scope cl s S (fun i v => ∃ t, v = .int (a + ((i : Nat) : Int)) t) Fin k i ys news := by
    intro k
    induction k with
    | zero =>
      intro i ys hi hy
      obtain rfl : i = n := by omega
      exact LCt.CompRestT.zero (fin ys hy)
    | succ k ih =>
      intro i ys hi hy
      refine LCt.CompRestT.succ ?_
      rintro v I oI C oC D m₂ h tk E' ⟨t, rfl⟩ hC hx F N off ne
      refine wpAny_mono (turn i t ys I oI C oC D m₂ h tk E' (by omega) hC hx F N off ne) (fun ok s' post => ?_) fun _ _ e => e
      cases ok with
      | true =>
        obtain ⟨hp, T⟩ := post.1 rfl
        rw [if_pos rfl]
        refine wpAny_mono T (fun y s'' q => ?_) fun _ _ e => e
        obtain ⟨rfl, h', tk', rfl, F', N'⟩ := q
        refine ⟨h', tk', news, rfl, F', N', off, hS, ih (i + 1) _ (by omega) ?_⟩
        rw [kept_succ, if_pos hp]
        exact IntsAre.append hy (.cons _ t .nil)
      | false =>
        obtain ⟨hp, h', tk', rfl, F', N'⟩ := post.2 rfl
        rw [if_neg Bool.false_ne_true]
        refine ⟨h', tk', news, rfl, F', N', off, hS, ih (i + 1) _ (by omega) ?_⟩
        rw [kept_succ, if_neg (by rw [hp]; exact Bool.false_ne_true), List.append_nil]
        exact hy
  exact key n 0 [] (by omega) .nil
end

theorem unr_end' {h₀ : Heap} {L I : Addr} {it : Obj} {rest : (Str → Option Value) → List (Addr × Obj) → Prop} {s₁ : Shared} {h' : Heap} {tk : Nat} {m' : Str → Option Value} {all : List (Addr × Obj)} (nw : List (Addr × Obj)) (F : Fr h₀ L h' m') (N : News h₀ L h' all)
    (hI : (I, it) ∈ all) (sub : ∀ p ∈ nw, p ∈ all) (off : ∀ p ∈ nw, p.1 ≠ I) (r : rest m' nw) : UnrEnd h₀ L s₁ I it rest { s₁ with heap := h', toks := tk } :=
  UnrEnd.intro F N nw (fun p hp => by
    rcases List.mem_cons.mp hp with rfl | hp
    · exact hI
    · exact sub p hp) off r
theorem off_by {h₀ h : Heap} {L I : Addr} {it : Obj} {all : List (Addr × Obj)} {p : Addr × Obj} (N : News h₀ L h all) (hI : (I, it) ∈ all) (hp : p ∈ all) (hc : p.2 ≠ it) : p.1 ≠ I := fun e => by
  have h1 := (N _ hp).1
  have h2 := (N _ hI).1
  rw [e] at h1
  exact hc (Option.some.inj (h1.symm.trans h2))

def ElPost (h₀ : Heap) (L : Addr) (m : Str → Option Value) (s₁ : Shared) (I : Addr) (oI : Obj) (C : Addr) (oC : Obj) (D : Addr) (oD : Obj) (R : Value → List (Addr × Obj) → Prop) (y : Value) (s₂ : Shared) : Prop :=
  ∃ h' tk nw', s₂ = { s₁ with heap := h', toks := tk } ∧ Fr h₀ L h' m ∧ News h₀ L h' ((I, oI) :: (C, oC) :: (D, oD) :: nw') ∧ LCg.Off3 I C D nw' ∧ R y nw'
theorem ElPost.mk {h₀ h' : Heap} {L : Addr} {m : Str → Option Value} {s₁ : Shared} {I C D : Addr} {oI oC oD : Obj} {R : Value → List (Addr × Obj) → Prop} {y : Value} {tk : Nat} {all : List (Addr × Obj)} (nw' : List (Addr × Obj)) (F : Fr h₀ L h' m) (N : News h₀ L h' all)
    (sub : ∀ p ∈ (I, oI) :: (C, oC) :: (D, oD) :: nw', p ∈ all) (off : ∀ p ∈ nw', p.1 ≠ I ∧ p.1 ≠ C ∧ p.1 ≠ D) (r : R y nw') : ElPost h₀ L m s₁ I oI C oC D oD R y { s₁ with heap := h', toks := tk } :=
  ⟨h', tk, nw', rfl, F, fun p hp => N p (sub p hp), LCg.Off3.of off, r⟩
section
variable {prog : Program} {w : World} {A : Around} {s : Shared} {h₀ : Heap} {L : Addr} {m : Str → Option Value} {env : Env} {elt : PySem.Expr} {x : Str} {scope : Scope} {cl : List (Str × Addr)} {S : List (Addr × Obj) → Prop} {Fin : List Value → List (Addr × Obj) → Prop} {news : List (Addr × Obj)}
/-- a comprehension without a test, by an invariant over what it has made -/
theorem rest_made {P : Nat → Value → Prop} {n : Nat} (J : Nat → List Value → List (Addr × Obj) → Prop) (hS : ∀ i ys nw, J i ys nw → S nw) (h0 : J 0 [] news)
    (turn : ∀ i v ys nw I oI C oC D m₂ h tk (E' : Value → Shared → Prop), i < n → P i v → J i ys nw → LCg.NsObj oC m₂ → m₂ x = some v → Fr h₀ L h m → News h₀ L h ((I, oI) :: (C, oC) :: (D, LCg.lst ys) :: nw) → LCg.Off3 I C D nw → ((@Ne Nat I C) ∧ (@Ne Nat I D) ∧ (@Ne Nat C D)) →
      wpAny (model prog w) A (eval elt (compEnvC scope cl C env)) (ElPost h₀ L m { s with heap := h, toks := tk } I oI C oC D (LCg.lst ys) (fun y nw' => J (i + 1) (ys ++ [y]) nw')) E' { s with heap := h, toks := tk })
    (fin : ∀ ys nw, J n ys nw → Fin ys nw) : LCg.CompRest prog w A h₀ L m env elt x scope cl s S P Fin n 0 [] news := by
  have key : ∀ k i ys nw, i + k = n → J i ys nw → LCg.CompRest prog w A h₀ L m env elt x scope cl s S P Fin k i ys nw := by
    intro k
    induction k with
    | zero =>
      intro i ys nw hi hj
      obtain rfl : i = n := by omega
      exact LCg.CompRest.zero (fin ys nw hj)
    | succ k ih =>
      intro i ys nw hi hj
      refine LCg.CompRest.succ ?_
      intro v I oI C oC D m₂ h tk E' hv hC hx F N off ne
      refine wpAny_mono (turn i v ys nw I oI C oC D m₂ h tk E' (by omega) hv hj hC hx F N off ne) (fun y s'' q => ?_) fun _ _ e => e
      obtain ⟨h', tk', nw', rfl, F', N', off', hj'⟩ := q
      exact ⟨h', tk', nw', rfl, F', N', off', hS _ _ _ hj', ih (i + 1) _ nw' (by omega) hj'⟩
  exact key n 0 [] news (by omega) h0

theorem extend_any {E : Value → Shared → Prop} {Q : Value → Shared → Prop} {D b : Addr} {us vs : List Value} {n n2 : Nat} {news' : Nat → List (Addr × Obj)} (F : Fr h₀ L s.heap m) (N : News h₀ L s.heap news) (hb : (b, listOf vs.toArray n2) ∈ news)
    (U : ∀ k, Upd D (listOf us.toArray n) (listOf (us ++ vs).toArray k) news (news' k)) (hz : us.length + vs.length ≤ sizeLine)
    (h : ∀ k h', Fr h₀ L h' m → News h₀ L h' (news' k) → Q .none { s with heap := h' }) : wpAny (model prog w) A (call (.builtin "list.extend") [.ref D, .ref b]) Q E s := by
  have hd : ¬ (!us.toArray.isEmpty && Builtin.List.listTooLong (us.toArray.size + vs.toArray.size)) = true := by
    unfold Builtin.List.listTooLong
    simp only [List.size_toArray, Bool.and_eq_true, decide_eq_true_eq]
    omega
  by_cases hv : vs = []
  · subst hv
    refine kxn_extend F N hb rfl (by have := U n; rwa [List.append_nil] at this) hd (by simpa using hz) (by simp only [List.size_toArray] at hz ⊢; simp at hz ⊢; omega) fun h' F' N' => h _ h' F' N'
  · refine kl_extend F N hb rfl (by simpa using hv) (U (n + 1)) hd (by show us.length ≤ sizeLine; omega) (by simp only [List.size_toArray]; omega) fun h' F' N' => h _ h' F' N'
end
/-- what a call made, laid on the ledger -/
theorem news_many {h₀ h h' : Heap} {L : Addr} {m : Str → Option Value} {news add : List (Addr × Obj)} (F : Fr h₀ L h m) (N : News h₀ L h' news) (ha : ∀ p ∈ add, h.get? p.1 = none ∧ h'.get? p.1 = some p.2) : News h₀ L h' (add ++ news) := fun p hp => by
  rcases List.mem_append.mp hp with hp | hp
  · exact news_new F N (ha p hp).1 (ha p hp).2 p (.head _)
  · exact N p hp
theorem apart_many {h₀ h : Heap} {L : Addr} {news add : List (Addr × Obj)} (N : News h₀ L h news) (ha : ∀ p ∈ add, h.get? p.1 = none) : ∀ p ∈ add, ∀ q ∈ news, p.1 ≠ q.1 := fun p hp q hq e => by
  have := (N q hq).1
  rw [← e, ha p hp] at this; cases this
end Mine
end
section
namespace Mine
/-! the plain law: texts as lists of numbers -/
abbrev Wd := List Nat
def ltB : Wd → Wd → Bool
  | _, [] => false
  | [], _ :: _ => true
  | a :: r, b :: t => Nat.blt a b || (Nat.beq a b && ltB r t)
def sl (l : Wd) (i j : Nat) : Wd := (l.drop i).take (j - i)
def inner (l : Wd) (n b : Nat) : Nat → Nat → Nat → Nat × Nat
  | 0, k, j => (k, j)
  | f + 1, k, j => bif Nat.blt j n && !(ltB (sl l j (j + 1)) (sl l k (k + 1))) then inner l n b f (bif ltB (sl l k (k + 1)) (sl l j (j + 1)) then b else k + 1) (j + 1) else (k, j)
def emit (l : Wd) (k long : Nat) : Nat → Nat → List Wd → Nat × List Wd
  | 0, b, found => (b, found)
  | f + 1, b, found => bif Nat.ble b k then emit l k long f (b + long) (found ++ [sl l b (b + long)]) else (b, found)
def along (l : Wd) (n : Nat) : Nat → Nat → List Wd → List Wd
  | 0, _, found => found
  | f + 1, b, found => bif Nat.blt b n then
      let p := inner l n b n b (b + 1)
      let q := emit l p.1 (p.2 - p.1) n b found
      along l n f q.1 q.2
    else found
def least (l : Wd) (n : Nat) : Nat → Nat → Nat → Nat
  | 0, _, m => m
  | f + 1, i, m => least l n f (i + 1) (bif ltB (sl l i n) (sl l m n) then i else m)
def byEnds : Nat → Wd → List Wd → List Wd
  | 0, _, found => found
  | f + 1, l, found => bif l.isEmpty then found else
      let m := least l l.length (l.length - 1) 1 0
      byEnds f (l.take m) (sl l m l.length :: found)
def duval (l : Wd) : List Wd := along l l.length l.length 0 []
def ends (l : Wd) : List Wd := byEnds l.length l []
/-- the ends of w behind its first sign, longest first: is w less than each? -/
def lessAll (w : Wd) : Wd → Bool
  | [] => true
  | a :: r => ltB w (a :: r) && lessAll w r
def lynB (w : Wd) : Bool := !w.isEmpty && lessAll w w.tail
def fallsB : List Wd → Bool
  | a :: b :: r => !(ltB a b) && fallsB (b :: r)
  | _ => true
def eqB : Wd → Wd → Bool
  | [], [] => true
  | a :: r, b :: t => Nat.beq a b && eqB r t
  | _, _ => false
def eqsB : List Wd → List Wd → Bool
  | [], [] => true
  | a :: r, b :: t => eqB a b && eqsB r t
  | _, _ => false
def validB (l : Wd) (ws : List Wd) : Bool := eqB ws.flatten l && ws.all lynB && fallsB ws
def allWays : Nat → Wd → Wd → List (List Wd)
  | 0, _, _ => []
  | f + 1, l, last => bif l.isEmpty then [[]] else
      (List.range l.length).flatMap fun e =>
        let w := l.take (e + 1)
        bif (!(ltB last w)) && lessAll w w.tail then (allWays f (l.drop (e + 1)) w).map (w :: ·) else []
def onlyB (a : List (List Wd)) (b : List Wd) : Bool := match a with
  | [x] => eqsB x b
  | _ => false
def check (p : Wd → Bool) : Nat → Wd → Bool
  | 0, w => p w
  | n + 1, w => check p n (65 :: w) && check p n (66 :: w) && check p n (67 :: w)
theorem ltB_eq : ∀ a b : Wd, ltB a b = decide (a < b)
  | _, [] => by simp [ltB]
  | [], b :: t => by simp [ltB]
  | a :: r, b :: t => by
    have ih := ltB_eq r t
    rw [Bool.eq_iff_iff]
    simp [ltB, ih, List.cons_lt_cons_iff, Nat.blt_eq]
theorem ltB_iff {a b : Wd} : ltB a b = true ↔ a < b := by rw [ltB_eq]; simp
theorem ltB_not {a b : Wd} : ltB a b = false ↔ ¬ a < b := by rw [ltB_eq]; simp
theorem inner_stop {l : Wd} {n b f k j : Nat} (h : ¬ j < n ∨ sl l j (j + 1) < sl l k (k + 1)) : inner l n b f k j = (k, j) := by
  cases f with
  | zero => rfl
  | succ f =>
    have e : (Nat.blt j n && !(ltB (sl l j (j + 1)) (sl l k (k + 1)))) = false := by
      rcases h with h | h
      · have : Nat.blt j n = false := by rw [Bool.eq_false_iff, ne_eq, Nat.blt_eq]; exact h
        rw [this]; rfl
      · rw [ltB_iff.mpr h]; simp
    simp only [inner, e, cond_false]
theorem inner_step {l : Wd} {n b f k j : Nat} (h1 : j < n) (h2 : ¬ sl l j (j + 1) < sl l k (k + 1)) : inner l n b (f + 1) k j = inner l n b f (if sl l k (k + 1) < sl l j (j + 1) then b else k + 1) (j + 1) := by
  have e : (Nat.blt j n && !(ltB (sl l j (j + 1)) (sl l k (k + 1)))) = true := by
    rw [ltB_not.mpr h2, Nat.blt_eq.mpr h1]; rfl
  rw [inner, e, cond_true]
  by_cases h : sl l k (k + 1) < sl l j (j + 1)
  · rw [if_pos h, ltB_iff.mpr h, cond_true]
  · rw [if_neg h, ltB_not.mpr h, cond_false]
theorem emit_stop {l : Wd} {k g f b : Nat} {fnd : List Wd} (h : ¬ b ≤ k) : emit l k g f b fnd = (b, fnd) := by
  cases f with
  | zero => rfl
  | succ f =>
    have e : Nat.ble b k = false := by rw [Bool.eq_false_iff, ne_eq, Nat.ble_eq]; exact h
    rw [emit, e, cond_false]
theorem emit_step {l : Wd} {k g f b : Nat} {fnd : List Wd} (h : b ≤ k) : emit l k g (f + 1) b fnd = emit l k g f (b + g) (fnd ++ [sl l b (b + g)]) := by
  rw [emit, Nat.ble_eq.mpr h, cond_true]
theorem along_stop {l : Wd} {n f b : Nat} {fnd : List Wd} (h : ¬ b < n) : along l n f b fnd = fnd := by
  cases f with
  | zero => rfl
  | succ f =>
    have e : Nat.blt b n = false := by rw [Bool.eq_false_iff, ne_eq, Nat.blt_eq]; exact h
    rw [along, e, cond_false]
theorem along_step {l : Wd} {n f b k j b' : Nat} {fnd fnd' : List Wd} (h : b < n) (hp : inner l n b n b (b + 1) = (k, j)) (hq : emit l k (j - k) n b fnd = (b', fnd')) : along l n (f + 1) b fnd = along l n f b' fnd' := by
  rw [along, Nat.blt_eq.mpr h, cond_true]
  simp only [hp, hq]
theorem byEnds_stop {l : Wd} {f : Nat} {fnd : List Wd} (h : l = []) : byEnds f l fnd = fnd := by
  subst h
  cases f <;> rfl
theorem byEnds_step {l : Wd} {f : Nat} {fnd : List Wd} (h : l ≠ []) : byEnds (f + 1) l fnd = byEnds f (l.take (least l l.length (l.length - 1) 1 0)) (sl l (least l l.length (l.length - 1) 1 0) l.length :: fnd) := by
  have e : l.isEmpty = false := by cases l with
    | nil => exact absurd rfl h
    | cons a r => rfl
  rw [byEnds, e, cond_false]
theorem least_step {l : Wd} {n f i m : Nat} : least l n (f + 1) i m = least l n f (i + 1) (if sl l i n < sl l m n then i else m) := by
  rw [least]
  by_cases h : sl l i n < sl l m n
  · rw [if_pos h, ltB_iff.mpr h, cond_true]
  · rw [if_neg h, ltB_not.mpr h, cond_false]
theorem least_stop {l : Wd} {n i m : Nat} : least l n 0 i m = m := rfl
end Mine
namespace Mine
def wayG (f : Nat) (l last : Wd) (e : Nat) : List (List Wd) :=
  bif (!(ltB last (l.take (e + 1)))) && lessAll (l.take (e + 1)) (l.take (e + 1)).tail then (allWays f (l.drop (e + 1)) (l.take (e + 1))).map (l.take (e + 1) :: ·) else []
theorem allWays_nil {f : Nat} {last : Wd} : allWays (f + 1) [] last = [[]] := rfl
theorem allWays_cons {f : Nat} {l last : Wd} (h : l ≠ []) : allWays (f + 1) l last = (List.range l.length).flatMap (wayG f l last) := by
  have e : l.isEmpty = false := by cases l with
    | nil => exact absurd rfl h
    | cons a r => rfl
  rw [allWays, e, cond_false]
  rfl
theorem range_flat (g : Nat → List (List Wd)) (i : Nat) : (List.range (i + 1)).flatMap g = (List.range i).flatMap g ++ g i := by
  rw [List.range_succ, List.flatMap_append, List.flatMap_cons, List.flatMap_nil, List.append_nil]
theorem allWays_few : ∀ (f : Nat) (l last : Wd), (allWays f l last).length ≤ 2 ^ l.length := by
  intro f
  induction f with
  | zero => intro l last; exact Nat.zero_le _
  | succ f ih =>
    intro l last
    by_cases h : l = []
    · subst h; exact Nat.le_refl _
    · rw [allWays_cons h]
      have key : ∀ i, i ≤ l.length → ((List.range i).flatMap (wayG f l last)).length + 2 ^ (l.length - i) ≤ 2 ^ l.length := by
        intro i
        induction i with
        | zero => intro _; simp
        | succ i ih2 =>
          intro hi
          rw [range_flat, List.length_append]
          have h1 := ih2 (by omega)
          have h2 : (wayG f l last i).length ≤ 2 ^ (l.length - (i + 1)) := by
            unfold wayG
            generalize ((!(ltB last (l.take (i + 1)))) && lessAll (l.take (i + 1)) (l.take (i + 1)).tail) = c
            cases c with
            | false => exact Nat.zero_le _
            | true =>
              rw [cond_true, List.length_map]
              have := ih (l.drop (i + 1)) (l.take (i + 1))
              rwa [List.length_drop] at this
          have h3 : 2 ^ (l.length - i) = 2 * 2 ^ (l.length - (i + 1)) := by
            rw [show l.length - i = (l.length - (i + 1)) + 1 by omega, Nat.pow_succ, Nat.mul_comm]
          omega
      exact Nat.le_trans (Nat.le_add_right _ _) (key l.length (Nat.le_refl _))
theorem ways_few (f : Nat) (l last : Wd) (i : Nat) (hi : i ≤ l.length) : ((List.range i).flatMap (wayG f l last)).length ≤ 2 ^ l.length := by
  have h := allWays_few (f + 1) l last
  by_cases e : l = []
  · subst e
    have : i = 0 := by simpa using hi
    subst this; simp
  · rw [allWays_cons e] at h
    refine Nat.le_trans ?_ h
    have : (List.range l.length) = List.range i ++ (List.range (l.length - i)).map (i + ·) := by
      rw [← List.range_add, Nat.add_sub_cancel' hi]
    rw [this, List.flatMap_append, List.length_append]
    exact Nat.le_add_right _ _
theorem lessAll_iff {w : Wd} : ∀ {r : Wd}, lessAll w r = true ↔ ∀ i, i < r.length → w < r.drop i
  | [] => by simp [lessAll]
  | a :: r => by
    rw [lessAll, Bool.and_eq_true, ltB_iff, lessAll_iff]
    constructor
    · rintro ⟨h1, h2⟩ i hi
      cases i with
      | zero => exact h1
      | succ i => exact h2 i (by simpa using hi)
    · intro h
      exact ⟨h 0 (by simp), fun i hi => h (i + 1) (by simpa using hi)⟩
theorem allWays_words : ∀ (f : Nat) (l last : Wd) (ws : List Wd), ws ∈ allWays f l last → ws.length ≤ l.length := by
  intro f
  induction f with
  | zero => intro l last ws h; cases h
  | succ f ih =>
    intro l last ws h
    by_cases hl : l = []
    · subst hl
      rw [allWays_nil, List.mem_singleton] at h
      subst h; exact Nat.le_refl _
    · rw [allWays_cons hl, List.mem_flatMap] at h
      obtain ⟨e, he, h⟩ := h
      rw [List.mem_range] at he
      unfold wayG at h
      generalize ((!(ltB last (l.take (e + 1)))) && lessAll (l.take (e + 1)) (l.take (e + 1)).tail) = c at h
      cases c with
      | false => cases h
      | true =>
        rw [cond_true, List.mem_map] at h
        obtain ⟨r, hr, rfl⟩ := h
        have := ih _ _ _ hr
        rw [List.length_drop] at this
        rw [List.length_cons]
        omega
end Mine
end
section
open PySem PySem.W PyProof.Rows
namespace Mine
section
local macro_rules | `(tactic| k_room) => `(tactic| ktr_room)
local macro_rules | `(tactic| k_units) => `(tactic| ktr_units)
local macro_rules | `(tactic| walk_at "call ref") => `(tactic| (k_here; (with_reducible show wpAny _ _ (call (Value.ref 332) [Value.str _ _, Value.str _ _]) _ _ _); k_dflt (refine' Calls.use (less_ok _ _ _ _ _ _ _ _) ?k1 ?k2 ?k3 ?k4 ?k5 ?kK ?kP ?kd ?ku ?_; (case k1 => k_asm); (case k2 => k_asm); (case k3 => k_asm); (case k4 => k_asm); (case k5 => k_asm); (case kK => first | exact rfl | assumption); (case kP => trivial); (case kd => ktr_room); (case ku => ktr_units)); intro r9 h9 tk9 F9 N9 K9 R9; subst R9; (try dsimp only); (try k_fold)))
local macro_rules | `(tactic| walk_at "call ref") => `(tactic| (k_here; (with_reducible show wpAny _ _ (call (Value.ref 339) [Value.str _ _, Value.int _ _, Value.int _ _]) _ _ _); k_dflt (refine' Calls.use (part_ok _ _ _ _ _ _ _ _ _ _ ?h0 ?h1 ?h2 ?hx) ?k1 ?k2 ?k3 ?k4 ?k5 ?kK ?kP ?kd ?ku ?_; (case k1 => k_asm); (case k2 => k_asm); (case k3 => k_asm); (case k4 => k_asm); (case k5 => k_asm); (case kK => first | exact rfl | assumption); (case kP => trivial); (case kd => ktr_room); (case ku => ktr_units); (case h0 => omega); (case h1 => omega); (case h2 => omega); (case hx => omega)); intro r9 h9 tk9 F9 N9 K9 R9; obtain ⟨t9, R9⟩ := R9; subst R9; (try dsimp only); (try k_fold)))
local macro_rules | `(tactic| walk_at "pyIter ref") => `(tactic| refine Halt.mk ?_)
local macro_rules | `(tactic| walk_at "UnrEnd") => `(tactic| refine Halt.mk ?_)
theorem falls_ok (w : World) (mean : ExcName → Option Value) (mg mb : Str → Option Value) (x : Str) (tx : Tok) (hx : x.length ≤ 100) (hl : ∀ i : Int, 1 ≤ i → i < x.length → x.cps.toList < (sub x i x.length).cps.toList) :
    Calls w mean mg mb 346 [.str x tx] 8 80 (fun _ => True) (fun r _ _ => r = .bool true) := by
  unfold Calls
  k_fill
  intro dp un gd cn cs a ccd cl outer A₀ base h₀ L m s Q E B F X T hk hP hd hu hret
  have N : News h₀ L s.heap [] := News.nil
  refine wpAny_call ?_
  k_dflt (refine' code_defG ?k1 ?k2 ?k3 ?k4 ?k5 ?kA ?kF ?kK ?k6 ?k7 ?k8 ?k9 ?kB ?_ ?c2 ?c3 ?c4 ?c5; (case kA => exact rfl); (case kF => exact rfl); (case kK => assumption); (case k1 => k_asm); (case k2 => k_asm); (case k3 => k_asm); (case k4 => k_asm); (case k5 => k_asm); (case k6 => k_is); (case k7 => k_is); (case k8 => ktr_room); (case k9 => exact BindsTo.of_eq rfl); (case c5 => decide); (case kB => exact locs rfl); (case c2 => exact rfl); (case c3 => exact rfl); (case c4 => exact rfl); k_whole; intro g L' h' FG F' N' B' X' T' G; (try dsimp only); (try k_fold))
  have keepG : ∀ b o, s.heap.get? b = some o → g.get? b = some o := fun b o e => G b o e (fun hb => nomatch hb)
  clear G
  obtain ⟨u0, F1⟩ : ∃ u : Str → Option Value, Fr g L' h' (fun (y : Str) => if y = Str.ofString "word" then some (.str x tx) else u y) := ⟨_, (Fr_know (Str.ofString "word") (.str x tx) F' (by first | with_unfolding_all rfl | with_unfolding_all assumption))⟩
  clear F'
  generalize s.toks + List.length _ = tk0
  k_steps
  refine Halt.on ?_
  k_dflt (refine for_range (n := x.length - 1) (fun _ m₁ nw => m₁ (Str.ofString "word") = some (.str x tx) ∧ nw = []) (by rfl) (by assumption) (range_small (by omega) (by omega) (by omega) (by omega)) (range_n (by omega)) (by k_asm) (by k_asm) ⟨by with_unfolding_all rfl, rfl⟩ ?turn ?done)
  case turn =>
    rintro I i m₁ nw t h tk hi ⟨hm, rfl⟩ F N
    obtain ⟨u2, F2⟩ : ∃ u : Str → Option Value, Fr g L' h (fun (y : Str) => if y = Str.ofString "at" then some (.int (1 + (i : Int)) t) else if y = Str.ofString "word" then some (.str x tx) else u y) := ⟨_, (Fr_know (Str.ofString "at") (.int (1 + (i : Int)) t) (Fr_know (Str.ofString "word") (.str x tx) F (by first | with_unfolding_all rfl | with_unfolding_all assumption)) (by first | with_unfolding_all rfl | with_unfolding_all assumption))⟩
    clear F
    k_steps
    · refine Halt.on ?_
      k_dflt (exact unr_end [] (by k_asm) (by k_asm) (by k_mem) (fun _ hp => nomatch hp) (fun _ hp => nomatch hp) ⟨by with_unfolding_all rfl, rfl⟩)
    · exact absurd (hl (1 + (i : Int)) (by omega) (by omega)) (by assumption)
  case done =>
    rintro m₁ nw h tk ⟨hm, rfl⟩ F N
    k_steps
    exact hret _ _ _ (fun b o e => Fr.keep (h₀ := g) (by assumption) b o (keepG b o e)) rfl
end
end Mine
end
section
open PySem PySem.W PyProof.Rows
namespace Mine
abbrev tl (x : Str) : Wd := x.cps.toList
theorem tl_sub (x : Str) (i j : Nat) : tl (sub x (i : Int) (j : Int)) = sl (tl x) i j := by
  unfold tl sub sl
  have e : ((j : Int) - (i : Int)).toNat = j - i := by omega
  simp [e]
theorem tl_sub1 (x : Str) (i : Nat) : (sub x (i : Int) ((i : Int) + 1)).cps.toList = sl (tl x) i (i + 1) := tl_sub x i (i + 1)
theorem tl_subD (x : Str) (i j k : Nat) (h : k ≤ j) : tl (sub x (i : Int) ((i : Int) + ((j : Int) - (k : Int)))) = sl (tl x) i (i + (j - k)) := by
  have := tl_sub x i (i + (j - k))
  rwa [show ((i + (j - k) : Nat) : Int) = (i : Int) + ((j : Int) - (k : Int)) from by omega] at this
theorem len_tl (x : Str) : (tl x).length = x.length := by simp [tl, Str.length]
theorem push_nw {D : Addr} {v : Value} {vs : List Value} {nn : Nat} : [(D, listOf (vs.toArray.push v) nn)] = [(D, listOf (List.toArray (vs ++ [v])) nn)] := by rw [List.push_toArray]
/-- the ledger's one list holds the words fnd -/
def Holds1 (D : Addr) (b : Nat) (fnd : List Wd) (nw : List (Addr × Obj)) : Prop := ∃ vs nn ws, nw = [(D, listOf (List.toArray vs) nn)] ∧ StrsAre vs ws ∧ ws.map tl = fnd ∧ vs.length ≤ b
def J1 (x : Str) (tx : Tok) (D : Addr) (c : Nat × Nat × List Wd) (m : Str → Option Value) (nw : List (Addr × Obj)) : Prop :=
  m (Str.ofString "text") = some (.str x tx) ∧ m (Str.ofString "found") = some (.ref D) ∧ (∃ t, m (Str.ofString "begin") = some (.int (c.2.1 : Int) t)) ∧
  Holds1 D c.2.1 c.2.2 nw ∧ c.2.1 ≤ x.length ∧ x.length - c.2.1 ≤ c.1 ∧ along (tl x) x.length c.1 c.2.1 c.2.2 = duval (tl x)
def J2 (x : Str) (tx : Tok) (D : Addr) (b : Nat) (tb : Tok) (fnd : List Wd) (c : Nat × Nat × Nat) (m : Str → Option Value) (nw : List (Addr × Obj)) : Prop :=
  m (Str.ofString "text") = some (.str x tx) ∧ m (Str.ofString "found") = some (.ref D) ∧ m (Str.ofString "begin") = some (.int (b : Int) tb) ∧
  (∃ t, m (Str.ofString "back") = some (.int (c.2.1 : Int) t)) ∧ (∃ t, m (Str.ofString "at") = some (.int (c.2.2 : Int) t)) ∧
  Holds1 D b fnd nw ∧ b ≤ c.2.1 ∧ c.2.1 < c.2.2 ∧ c.2.2 ≤ x.length ∧ x.length - c.2.2 ≤ c.1 ∧ inner (tl x) x.length b c.1 c.2.1 c.2.2 = inner (tl x) x.length b x.length b (b + 1)
def J3 (x : Str) (tx : Tok) (D : Addr) (k j : Nat) (q : Nat × List Wd) (c : Nat × Nat × List Wd) (m : Str → Option Value) (nw : List (Addr × Obj)) : Prop :=
  m (Str.ofString "text") = some (.str x tx) ∧ m (Str.ofString "found") = some (.ref D) ∧ (∃ t, m (Str.ofString "begin") = some (.int (c.2.1 : Int) t)) ∧
  (∃ t, m (Str.ofString "back") = some (.int (k : Int) t)) ∧ (∃ t, m (Str.ofString "at") = some (.int (j : Int) t)) ∧ (∃ t, m (Str.ofString "long") = some (.int ((j : Int) - (k : Int)) t)) ∧
  Holds1 D c.2.1 c.2.2 nw ∧ c.2.1 ≤ j ∧ k + 1 - c.2.1 ≤ c.1 ∧ emit (tl x) k (j - k) c.1 c.2.1 c.2.2 = q
section
local macro_rules | `(tactic| k_room) => `(tactic| ktr_room)
local macro_rules | `(tactic| k_units) => `(tactic| ktr_units)
local macro_rules | `(tactic| walk_at "call ref") => `(tactic| (k_here; (with_reducible show wpAny _ _ (call (Value.ref 332) [Value.str _ _, Value.str _ _]) _ _ _); k_dflt (refine' Calls.use (less_ok _ _ _ _ _ _ _ _) ?k1 ?k2 ?k3 ?k4 ?k5 ?kK ?kP ?kd ?ku ?_; (case k1 => k_asm); (case k2 => k_asm); (case k3 => k_asm); (case k4 => k_asm); (case k5 => k_asm); (case kK => first | exact rfl | assumption); (case kP => trivial); (case kd => ktr_room); (case ku => ktr_units)); intro r9 h9 tk9 F9 N9 K9 R9; subst R9; (try dsimp only); (try k_fold)))
local macro_rules | `(tactic| walk_at "call ref") => `(tactic| (k_here; (with_reducible show wpAny _ _ (call (Value.ref 339) [Value.str _ _, Value.int _ _, Value.int _ _]) _ _ _); k_dflt (refine' Calls.use (part_ok _ _ _ _ _ _ _ _ _ _ ?h0 ?h1 ?h2 ?hx) ?k1 ?k2 ?k3 ?k4 ?k5 ?kK ?kP ?kd ?ku ?_; (case k1 => k_asm); (case k2 => k_asm); (case k3 => k_asm); (case k4 => k_asm); (case k5 => k_asm); (case kK => first | exact rfl | assumption); (case kP => trivial); (case kd => ktr_room); (case ku => ktr_units); (case h0 => omega); (case h1 => omega); (case h2 => omega); (case hx => omega)); intro r9 h9 tk9 F9 N9 K9 R9; obtain ⟨t9, R9⟩ := R9; subst R9; (try dsimp only); (try k_fold)))
local macro_rules | `(tactic| walk_at "exec While") => `(tactic| refine Halt.mk ?_)
local macro_rules | `(tactic| walk_at "exec While Compare") => `(tactic| refine Halt.mk ?_)
local macro_rules | `(tactic| walk_at "exec While BoolOp") => `(tactic| refine Halt.mk ?_)
local macro_rules | `(tactic| walk_at "exec While Compare cons nil") => `(tactic| refine Halt.mk ?_)
local macro_rules | `(tactic| walk_at "exec While BoolOp cons nil") => `(tactic| refine Halt.mk ?_)
theorem along_ok (w : World) (mean : ExcName → Option Value) (mg mb : Str → Option Value) (x : Str) (tx : Tok) (hx : x.length ≤ 100) :
    Calls w mean mg mb 353 [.str x tx] 8 80 (fun _ => True) (fun r H H' => ∃ D vs nn ws, r = .ref D ∧ H.get? D = none ∧ H'.get? D = some (listOf (List.toArray vs) nn) ∧ StrsAre vs ws ∧ ws.map tl = duval (tl x)) := by
  unfold Calls
  k_fill
  intro dp un gd cn cs a ccd cl outer A₀ base h₀ L m s Q E B F X T hk hP hd hu hret
  have N : News h₀ L s.heap [] := News.nil
  refine wpAny_call ?_
  k_dflt (refine' code_defG ?k1 ?k2 ?k3 ?k4 ?k5 ?kA ?kF ?kK ?k6 ?k7 ?k8 ?k9 ?kB ?_ ?c2 ?c3 ?c4 ?c5; (case kA => exact rfl); (case kF => exact rfl); (case kK => assumption); (case k1 => k_asm); (case k2 => k_asm); (case k3 => k_asm); (case k4 => k_asm); (case k5 => k_asm); (case k6 => k_is); (case k7 => k_is); (case k8 => ktr_room); (case k9 => exact BindsTo.of_eq rfl); (case c5 => decide); (case kB => exact locs rfl); (case c2 => exact rfl); (case c3 => exact rfl); (case c4 => exact rfl); k_whole; intro g L' h' FG F' N' B' X' T' G; (try dsimp only); (try k_fold))
  have keepG : ∀ b o, s.heap.get? b = some o → g.get? b = some o := fun b o e => G b o e (fun hb => nomatch hb)
  clear G
  obtain ⟨u0, F1⟩ : ∃ u : Str → Option Value, Fr g L' h' (fun (y : Str) => if y = Str.ofString "text" then some (.str x tx) else u y) := ⟨_, (Fr_know (Str.ofString "text") (.str x tx) F' (by first | with_unfolding_all rfl | with_unfolding_all assumption))⟩
  clear F'
  generalize s.toks + List.length _ = tk0
  k_steps
  refine Halt.on ?_
  rename_i D h4 l1a D2 h3 l1b h2 h1 h0' F3 N3
  k_dflt (refine while_inv (news := [(D, listOf #[] 0)]) (J1 x tx D) (fun c => c.1) (x.length, 0, []) F3 (fun p hp => N3 p (.tail _ hp)) ⟨by with_unfolding_all rfl, by with_unfolding_all rfl, ⟨_, by with_unfolding_all rfl⟩, ⟨[], _, [], rfl, .nil, rfl, Nat.le_refl _⟩, Nat.zero_le _, Nat.le_refl _, (by rw [duval, len_tl])⟩ ?turn)
  case turn =>
    clear F3 N3
    rintro ⟨f, b, fnd⟩ m₁ nw h tk ⟨m1, m2, ⟨tb, m3⟩, ⟨vs, nn, ws, rfl, hws, hfnd, hlen⟩, hb, hf, hrem⟩ F N
    dsimp only at m3 hlen hb hf hrem hfnd
    subst hfnd
    obtain ⟨u2, F2⟩ : ∃ u : Str → Option Value, Fr g L' h (fun (y : Str) => if y = Str.ofString "text" then some (.str x tx) else if y = Str.ofString "found" then some (.ref D) else if y = Str.ofString "begin" then some (.int (b : Int) tb) else u y) := ⟨_, (Fr_know (Str.ofString "text") (.str x tx) (Fr_know (Str.ofString "found") (.ref D) (Fr_know (Str.ofString "begin") (.int (b : Int) tb) F (by first | with_unfolding_all rfl | with_unfolding_all assumption)) (by first | with_unfolding_all rfl | with_unfolding_all assumption)) (by first | with_unfolding_all rfl | with_unfolding_all assumption))⟩
    clear F
    k_steps
    · refine Halt.on ?_
      rename_i hlt tk2 D3 h5 l2 h6 h7 h8 F4 N4
      k_dflt (refine while_inv (news := [(D, listOf (List.toArray vs) nn)]) (J2 x tx D b tb (ws.map tl)) (fun c => c.1) (x.length, b, b + 1) F4 (fun p hp => N4 p (.tail _ hp)) ⟨by with_unfolding_all rfl, by with_unfolding_all rfl, by with_unfolding_all rfl, ⟨_, by with_unfolding_all rfl⟩, ⟨_, by with_unfolding_all rfl⟩, ⟨vs, _, ws, rfl, hws, rfl, hlen⟩, Nat.le_refl _, Nat.lt_succ_self _, (show b + 1 ≤ x.length by omega), (show x.length - (b + 1) ≤ x.length by omega), rfl⟩ ?turn2)
      case turn2 =>
        clear F4 N4
        rintro ⟨f2, k, j⟩ m₂ nw2 h9 tk9 ⟨n1, n2, n3, ⟨t4, n4⟩, ⟨t5, n5⟩, ⟨vs2, nn2, ws2, rfl, hws2, hfnd2, hlen2⟩, hbk, hkj, hj, hf2, hin⟩ F N
        dsimp only at n4 n5 hbk hkj hj hf2 hin
        obtain ⟨u5, F5⟩ : ∃ u : Str → Option Value, Fr g L' h9 (fun (y : Str) => if y = Str.ofString "text" then some (.str x tx) else if y = Str.ofString "found" then some (.ref D) else if y = Str.ofString "begin" then some (.int (b : Int) tb) else if y = Str.ofString "back" then some (.int (k : Int) t4) else if y = Str.ofString "at" then some (.int (j : Int) t5) else u y) := ⟨_, (Fr_know (Str.ofString "text") (.str x tx) (Fr_know (Str.ofString "found") (.ref D) (Fr_know (Str.ofString "begin") (.int (b : Int) tb) (Fr_know (Str.ofString "back") (.int (k : Int) t4) (Fr_know (Str.ofString "at") (.int (j : Int) t5) F (by first | with_unfolding_all rfl | with_unfolding_all assumption)) (by first | with_unfolding_all rfl | with_unfolding_all assumption)) (by first | with_unfolding_all rfl | with_unfolding_all assumption)) (by first | with_unfolding_all rfl | with_unfolding_all assumption)) (by first | with_unfolding_all rfl | with_unfolding_all assumption))⟩
        clear F
        k_steps
        · have hp : inner (tl x) x.length b x.length b (b + 1) = (k, j) := hin.symm.trans (inner_stop (.inr (by rw [← tl_sub1, ← tl_sub1]; assumption)))
          refine Halt.on ?_
          rename_i F7 N7
          k_dflt (refine while_inv (news := [(D, listOf (List.toArray vs2) nn2)]) (J3 x tx D k j (emit (tl x) k (j - k) x.length b (ws.map tl))) (fun c => c.1) (x.length, b, ws.map tl) F7 N7 ⟨by with_unfolding_all rfl, by with_unfolding_all rfl, ⟨_, by with_unfolding_all rfl⟩, ⟨_, by with_unfolding_all rfl⟩, ⟨_, by with_unfolding_all rfl⟩, ⟨_, by with_unfolding_all rfl⟩, ⟨vs2, _, ws2, rfl, hws2, hfnd2, hlen2⟩, (show b ≤ j by omega), (show k + 1 - b ≤ x.length by omega), rfl⟩ ?turn3)
          case turn3 =>
            clear F7 N7
            rintro ⟨f3, b3, fnd3⟩ m₃ nw3 h10 tk10 ⟨q1, q2, ⟨t6, q3⟩, ⟨t7, q4⟩, ⟨t8, q5⟩, ⟨t9, q6⟩, ⟨vs3, nn3, ws3, rfl, hws3, hfnd3, hlen3⟩, hb3, hf3, hem⟩ F N
            dsimp only at q3 q4 q5 q6 hb3 hf3 hem hlen3 hfnd3
            subst hfnd3
            obtain ⟨u6, F6⟩ : ∃ u : Str → Option Value, Fr g L' h10 (fun (y : Str) => if y = Str.ofString "text" then some (.str x tx) else if y = Str.ofString "found" then some (.ref D) else if y = Str.ofString "begin" then some (.int (b3 : Int) t6) else if y = Str.ofString "back" then some (.int (k : Int) t7) else if y = Str.ofString "at" then some (.int (j : Int) t8) else if y = Str.ofString "long" then some (.int ((j : Int) - (k : Int)) t9) else u y) := ⟨_, (Fr_know (Str.ofString "text") (.str x tx) (Fr_know (Str.ofString "found") (.ref D) (Fr_know (Str.ofString "begin") (.int (b3 : Int) t6) (Fr_know (Str.ofString "back") (.int (k : Int) t7) (Fr_know (Str.ofString "at") (.int (j : Int) t8) (Fr_know (Str.ofString "long") (.int ((j : Int) - (k : Int)) t9) F (by first | with_unfolding_all rfl | with_unfolding_all assumption)) (by first | with_unfolding_all rfl | with_unfolding_all assumption)) (by first | with_unfolding_all rfl | with_unfolding_all assumption)) (by first | with_unfolding_all rfl | with_unfolding_all assumption)) (by first | with_unfolding_all rfl | with_unfolding_all assumption)) (by first | with_unfolding_all rfl | with_unfolding_all assumption))⟩
            clear F
            k_steps
            · rename_i F8 N8
              have hle' : b3 ≤ k := by omega
              obtain ⟨f4, rfl⟩ : ∃ f4, f3 = f4 + 1 := ⟨f3 - 1, by omega⟩
              have e1 : tl (sub x (b3 : Int) ((b3 : Int) + ((j : Int) - (k : Int)))) = sl (tl x) b3 (b3 + (j - k)) := tl_subD x b3 j k (by omega)
              have e2 : ((b3 : Int) + ((j : Int) - (k : Int))) = ((b3 + (j - k) : Nat) : Int) := by omega
              refine WPost.next (f4, b3 + (j - k), (ws3 ++ [sub x (b3 : Int) ((b3 : Int) + ((j : Int) - (k : Int)))]).map tl) _ F8 N8 (fun p hp => hp) ⟨by with_unfolding_all rfl, by with_unfolding_all rfl, ⟨_, by rw [← e2]; with_unfolding_all rfl⟩, ⟨_, by with_unfolding_all rfl⟩, ⟨_, by with_unfolding_all rfl⟩, ⟨_, by with_unfolding_all rfl⟩, ⟨vs3 ++ [_], _, _, push_nw, hws3.append' (.cons _ _ .nil), rfl, ?_⟩, ?_, ?_, ?_⟩ (Nat.lt_succ_self _)
              · rw [List.length_append, List.length_singleton]; show vs3.length + 1 ≤ b3 + (j - k); omega
              · show b3 + (j - k) ≤ j; omega
              · show k + 1 - (b3 + (j - k)) ≤ f4; omega
              · rw [← hem, emit_step hle', List.map_append, ← e1]; rfl
            · have hle' : ¬ b3 ≤ k := by omega
              obtain ⟨f4, rfl⟩ : ∃ f4, f = f4 + 1 := ⟨f - 1, by omega⟩
              rw [emit_stop hle'] at hem
              refine WPost.next (f4, b3, ws3.map tl) _ F6 N (fun p hp => hp) ⟨by with_unfolding_all rfl, by with_unfolding_all rfl, ⟨_, by with_unfolding_all rfl⟩, ⟨vs3, _, ws3, rfl, hws3, rfl, hlen3⟩, ?_, ?_, ?_⟩ (Nat.lt_succ_self _)
              · show b3 ≤ x.length; omega
              · show x.length - b3 ≤ f4; omega
              · rw [← hrem]; exact (along_step (by omega) hp hem.symm).symm
        · rename_i FX NX
          have h1 : j < x.length := by omega
          have h2 : ¬ sl (tl x) j (j + 1) < sl (tl x) k (k + 1) := by rw [← tl_sub1, ← tl_sub1]; assumption
          have h3 : sl (tl x) k (k + 1) < sl (tl x) j (j + 1) := by rw [← tl_sub1, ← tl_sub1]; assumption
          obtain ⟨f5, rfl⟩ : ∃ f5, f2 = f5 + 1 := ⟨f2 - 1, by omega⟩
          refine WPost.next (f5, b, j + 1) _ FX NX (fun p hp => hp) ⟨by with_unfolding_all rfl, by with_unfolding_all rfl, by with_unfolding_all rfl, ⟨_, by with_unfolding_all rfl⟩, ⟨_, by with_unfolding_all rfl⟩, ⟨vs2, _, ws2, rfl, hws2, hfnd2, hlen2⟩, Nat.le_refl _, ?_, ?_, ?_, ?_⟩ (Nat.lt_succ_self _)
          · show b < j + 1; omega
          · show j + 1 ≤ x.length; omega
          · show x.length - (j + 1) ≤ f5; omega
          · rw [← hin, inner_step h1 h2, if_pos h3]
        · rename_i FX NX
          have h1 : j < x.length := by omega
          have h2 : ¬ sl (tl x) j (j + 1) < sl (tl x) k (k + 1) := by rw [← tl_sub1, ← tl_sub1]; assumption
          have h3 : ¬ sl (tl x) k (k + 1) < sl (tl x) j (j + 1) := by rw [← tl_sub1, ← tl_sub1]; assumption
          obtain ⟨f5, rfl⟩ : ∃ f5, f2 = f5 + 1 := ⟨f2 - 1, by omega⟩
          refine WPost.next (f5, k + 1, j + 1) _ FX NX (fun p hp => hp) ⟨by with_unfolding_all rfl, by with_unfolding_all rfl, by with_unfolding_all rfl, ⟨_, by with_unfolding_all rfl⟩, ⟨_, by with_unfolding_all rfl⟩, ⟨vs2, _, ws2, rfl, hws2, hfnd2, hlen2⟩, ?_, ?_, ?_, ?_, ?_⟩ (Nat.lt_succ_self _)
          · show b ≤ k + 1; omega
          · show k + 1 < j + 1; omega
          · show j + 1 ≤ x.length; omega
          · show x.length - (j + 1) ≤ f5; omega
          · rw [← hin, inner_step h1 h2, if_neg h3]
        · have hp : inner (tl x) x.length b x.length b (b + 1) = (k, j) := hin.symm.trans (inner_stop (.inl (by omega)))
          refine Halt.on ?_
          rename_i F7 N7
          k_dflt (refine while_inv (news := [(D, listOf (List.toArray vs2) nn2)]) (J3 x tx D k j (emit (tl x) k (j - k) x.length b (ws.map tl))) (fun c => c.1) (x.length, b, ws.map tl) F7 N7 ⟨by with_unfolding_all rfl, by with_unfolding_all rfl, ⟨_, by with_unfolding_all rfl⟩, ⟨_, by with_unfolding_all rfl⟩, ⟨_, by with_unfolding_all rfl⟩, ⟨_, by with_unfolding_all rfl⟩, ⟨vs2, _, ws2, rfl, hws2, hfnd2, hlen2⟩, (show b ≤ j by omega), (show k + 1 - b ≤ x.length by omega), rfl⟩ ?turn3)
          case turn3 =>
            clear F7 N7
            rintro ⟨f3, b3, fnd3⟩ m₃ nw3 h10 tk10 ⟨q1, q2, ⟨t6, q3⟩, ⟨t7, q4⟩, ⟨t8, q5⟩, ⟨t9, q6⟩, ⟨vs3, nn3, ws3, rfl, hws3, hfnd3, hlen3⟩, hb3, hf3, hem⟩ F N
            dsimp only at q3 q4 q5 q6 hb3 hf3 hem hlen3 hfnd3
            subst hfnd3
            obtain ⟨u6, F6⟩ : ∃ u : Str → Option Value, Fr g L' h10 (fun (y : Str) => if y = Str.ofString "text" then some (.str x tx) else if y = Str.ofString "found" then some (.ref D) else if y = Str.ofString "begin" then some (.int (b3 : Int) t6) else if y = Str.ofString "back" then some (.int (k : Int) t7) else if y = Str.ofString "at" then some (.int (j : Int) t8) else if y = Str.ofString "long" then some (.int ((j : Int) - (k : Int)) t9) else u y) := ⟨_, (Fr_know (Str.ofString "text") (.str x tx) (Fr_know (Str.ofString "found") (.ref D) (Fr_know (Str.ofString "begin") (.int (b3 : Int) t6) (Fr_know (Str.ofString "back") (.int (k : Int) t7) (Fr_know (Str.ofString "at") (.int (j : Int) t8) (Fr_know (Str.ofString "long") (.int ((j : Int) - (k : Int)) t9) F (by first | with_unfolding_all rfl | with_unfolding_all assumption)) (by first | with_unfolding_all rfl | with_unfolding_all assumption)) (by first | with_unfolding_all rfl | with_unfolding_all assumption)) (by first | with_unfolding_all rfl | with_unfolding_all assumption)) (by first | with_unfolding_all rfl | with_unfolding_all assumption)) (by first | with_unfolding_all rfl | with_unfolding_all assumption))⟩
            clear F
            k_steps
            · rename_i F8 N8
              have hle' : b3 ≤ k := by omega
              obtain ⟨f4, rfl⟩ : ∃ f4, f3 = f4 + 1 := ⟨f3 - 1, by omega⟩
              have e1 : tl (sub x (b3 : Int) ((b3 : Int) + ((j : Int) - (k : Int)))) = sl (tl x) b3 (b3 + (j - k)) := tl_subD x b3 j k (by omega)
              have e2 : ((b3 : Int) + ((j : Int) - (k : Int))) = ((b3 + (j - k) : Nat) : Int) := by omega
              refine WPost.next (f4, b3 + (j - k), (ws3 ++ [sub x (b3 : Int) ((b3 : Int) + ((j : Int) - (k : Int)))]).map tl) _ F8 N8 (fun p hp => hp) ⟨by with_unfolding_all rfl, by with_unfolding_all rfl, ⟨_, by rw [← e2]; with_unfolding_all rfl⟩, ⟨_, by with_unfolding_all rfl⟩, ⟨_, by with_unfolding_all rfl⟩, ⟨_, by with_unfolding_all rfl⟩, ⟨vs3 ++ [_], _, _, push_nw, hws3.append' (.cons _ _ .nil), rfl, ?_⟩, ?_, ?_, ?_⟩ (Nat.lt_succ_self _)
              · rw [List.length_append, List.length_singleton]; show vs3.length + 1 ≤ b3 + (j - k); omega
              · show b3 + (j - k) ≤ j; omega
              · show k + 1 - (b3 + (j - k)) ≤ f4; omega
              · rw [← hem, emit_step hle', List.map_append, ← e1]; rfl
            · have hle' : ¬ b3 ≤ k := by omega
              obtain ⟨f4, rfl⟩ : ∃ f4, f = f4 + 1 := ⟨f - 1, by omega⟩
              rw [emit_stop hle'] at hem
              refine WPost.next (f4, b3, ws3.map tl) _ F6 N (fun p hp => hp) ⟨by with_unfolding_all rfl, by with_unfolding_all rfl, ⟨_, by with_unfolding_all rfl⟩, ⟨vs3, _, ws3, rfl, hws3, rfl, hlen3⟩, ?_, ?_, ?_⟩ (Nat.lt_succ_self _)
              · show b3 ≤ x.length; omega
              · show x.length - b3 ≤ f4; omega
              · rw [← hrem]; exact (along_step (by omega) hp hem.symm).symm
    · refine hret _ _ _ (fun b o e => Fr.keep (h₀ := g) (by assumption) b o (keepG b o e)) ⟨D, vs, nn, ws, rfl, ?_, (N _ (.head _)).1, hws, ?_⟩
      · cases e : s.heap.get? D with
        | none => rfl
        | some o => have := keepG _ _ e; rw [(N _ (.head _)).2.2] at this; cases this
      · rw [← hrem, along_stop (by omega)]
end
end Mine
end
section
open PySem PySem.W PyProof.Rows
namespace Mine

def K1 (n : Nat) (q : List Wd) (c : Nat × Str × List Wd) (m : Str → Option Value) (nw : List (Addr × Obj)) : Prop :=
  ∃ D t vs nn ws, m (Str.ofString "text") = some (.str c.2.1 t) ∧ m (Str.ofString "found") = some (.ref D) ∧ nw = [(D, listOf (List.toArray vs) nn)] ∧ StrsAre vs ws ∧ ws.map tl = c.2.2 ∧ vs.length + c.2.1.length ≤ n ∧ c.2.1.length ≤ c.1 ∧ byEnds c.1 (tl c.2.1) c.2.2 = q
def K2 (y : Str) (ty : Tok) (D : Addr) (vs : List Value) (nn : Nat) (i : Nat) (m : Str → Option Value) (nw : List (Addr × Obj)) : Prop :=
  m (Str.ofString "text") = some (.str y ty) ∧ m (Str.ofString "found") = some (.ref D) ∧ nw = [(D, listOf (List.toArray vs) nn)] ∧
  ∃ k t, m (Str.ofString "least") = some (.int ((k : Nat) : Int) t) ∧ k < y.length ∧ least (tl y) y.length (y.length - 1 - i) (i + 1) k = least (tl y) y.length (y.length - 1) 1 0
theorem str_empty : Str.ofString "" = (⟨#[]⟩ : Str) := by decide +kernel
theorem tl_nil {y : Str} : tl y = [] ↔ y.length = 0 := by rw [← len_tl]; exact List.length_eq_zero_iff.symm
theorem str_pos {y : Str} (h : (y != Str.ofString "") = true) : 0 < y.length := by
  refine Nat.pos_of_ne_zero fun e => ?_
  have e1 : y = ⟨#[]⟩ := Str.ext' (by have := tl_nil.mpr e; exact Array.toList_inj.mp this)
  rw [e1, str_empty] at h
  simp at h
theorem str_nil {y : Str} (h : (y != Str.ofString "") = false) : tl y = [] := by
  have e : y = Str.ofString "" := by simpa using h
  rw [e, str_empty]
theorem tl_subI (y : Str) (i j : Nat) : tl (sub y (1 + (i : Int)) (j : Int)) = sl (tl y) (i + 1) j := by
  have := tl_sub y (i + 1) j
  rwa [show ((i + 1 : Nat) : Int) = 1 + (i : Int) by omega] at this
theorem tl_to {y : Str} {k : Nat} (h : k ≤ y.length) : tl (Txt.slice y none (some (k : Int))) = (tl y).take k := by
  have e := eq_of_beq (slice_closes_toL (x := y) (j := (k : Int)) (by omega) (by omega))
  rw [e]
  simp [tl]
section
local macro_rules | `(tactic| k_room) => `(tactic| ktr_room)
local macro_rules | `(tactic| k_units) => `(tactic| ktr_units)
local macro_rules | `(tactic| walk_at "call ref") => `(tactic| (k_here; (with_reducible show wpAny _ _ (call (Value.ref 332) [Value.str _ _, Value.str _ _]) _ _ _); k_dflt (refine' Calls.use (less_ok _ _ _ _ _ _ _ _) ?k1 ?k2 ?k3 ?k4 ?k5 ?kK ?kP ?kd ?ku ?_; (case k1 => k_asm); (case k2 => k_asm); (case k3 => k_asm); (case k4 => k_asm); (case k5 => k_asm); (case kK => first | exact rfl | assumption); (case kP => trivial); (case kd => ktr_room); (case ku => ktr_units)); intro r9 h9 tk9 F9 N9 K9 R9; subst R9; (try dsimp only); (try k_fold)))
local macro_rules | `(tactic| walk_at "call ref") => `(tactic| (k_here; (with_reducible show wpAny _ _ (call (Value.ref 339) [Value.str _ _, Value.int _ _, Value.int _ _]) _ _ _); k_dflt (refine' Calls.use (part_ok _ _ _ _ _ _ _ _ _ _ ?h0 ?h1 ?h2 ?hx) ?k1 ?k2 ?k3 ?k4 ?k5 ?kK ?kP ?kd ?ku ?_; (case k1 => k_asm); (case k2 => k_asm); (case k3 => k_asm); (case k4 => k_asm); (case k5 => k_asm); (case kK => first | exact rfl | assumption); (case kP => trivial); (case kd => ktr_room); (case ku => ktr_units); (case h0 => omega); (case h1 => omega); (case h2 => omega); (case hx => omega)); intro r9 h9 tk9 F9 N9 K9 R9; obtain ⟨t9, R9⟩ := R9; subst R9; (try dsimp only); (try k_fold)))
local macro_rules | `(tactic| walk_at "exec While") => `(tactic| refine Halt.mk ?_)
local macro_rules | `(tactic| walk_at "exec While Compare") => `(tactic| refine Halt.mk ?_)
local macro_rules | `(tactic| walk_at "exec While BoolOp") => `(tactic| refine Halt.mk ?_)
local macro_rules | `(tactic| walk_at "exec While Compare cons nil") => `(tactic| refine Halt.mk ?_)
local macro_rules | `(tactic| walk_at "exec While BoolOp cons nil") => `(tactic| refine Halt.mk ?_)
local macro_rules | `(tactic| walk_at "pyIter ref") => `(tactic| refine Halt.mk ?_)
local macro_rules | `(tactic| walk_at "UnrEnd") => `(tactic| refine Halt.mk ?_)
theorem ends_ok (w : World) (mean : ExcName → Option Value) (mg mb : Str → Option Value) (x : Str) (tx : Tok) (hx : x.length ≤ 100) :
    Calls w mean mg mb 360 [.str x tx] 8 80 (fun _ => True) (fun r H H' => ∃ D vs nn ws, r = .ref D ∧ H.get? D = none ∧ H'.get? D = some (listOf (List.toArray vs) nn) ∧ StrsAre vs ws ∧ ws.map tl = ends (tl x)) := by
  unfold Calls
  k_fill
  intro dp un gd cn cs a ccd cl outer A₀ base h₀ L m s Q E B F X T hk hP hd hu hret
  have N : News h₀ L s.heap [] := News.nil
  refine wpAny_call ?_
  k_dflt (refine' code_defG ?k1 ?k2 ?k3 ?k4 ?k5 ?kA ?kF ?kK ?k6 ?k7 ?k8 ?k9 ?kB ?_ ?c2 ?c3 ?c4 ?c5; (case kA => exact rfl); (case kF => exact rfl); (case kK => assumption); (case k1 => k_asm); (case k2 => k_asm); (case k3 => k_asm); (case k4 => k_asm); (case k5 => k_asm); (case k6 => k_is); (case k7 => k_is); (case k8 => ktr_room); (case k9 => exact BindsTo.of_eq rfl); (case c5 => decide); (case kB => exact locs rfl); (case c2 => exact rfl); (case c3 => exact rfl); (case c4 => exact rfl); k_whole; intro g L' h' FG F' N' B' X' T' G; (try dsimp only); (try k_fold))
  have keepG : ∀ b o, s.heap.get? b = some o → g.get? b = some o := fun b o e => G b o e (fun hb => nomatch hb)
  clear G
  obtain ⟨u0, F1⟩ : ∃ u : Str → Option Value, Fr g L' h' (fun (z9 : Str) => if z9 = Str.ofString "text" then some (.str x tx) else u z9) := ⟨_, (Fr_know (Str.ofString "text") (.str x tx) F' (by first | with_unfolding_all rfl | with_unfolding_all assumption))⟩
  clear F'
  generalize s.toks + List.length _ = tk0
  k_steps
  refine Halt.on ?_
  rename_i F3 N3
  k_dflt (refine while_inv (K1 x.length (ends (tl x))) (fun c => c.1) (x.length, x, []) F3 N3 ⟨_, _, [], _, [], by with_unfolding_all rfl, by with_unfolding_all rfl, rfl, .nil, rfl, (by simp), Nat.le_refl _, (by rw [ends, len_tl])⟩ ?turn)
  case turn =>
    clear F3 N3
    rintro ⟨f, y, fnd⟩ m₁ nw h tk ⟨D, ty, vs, nn, ws, m1, m2, rfl, hws, hfnd, hlen, hf, hrem⟩ F N
    dsimp only at m1 hlen hf hrem hfnd
    subst hfnd
    obtain ⟨u2, F2⟩ : ∃ u : Str → Option Value, Fr g L' h (fun (z9 : Str) => if z9 = Str.ofString "text" then some (.str y ty) else if z9 = Str.ofString "found" then some (.ref D) else u z9) := ⟨_, (Fr_know (Str.ofString "text") (.str y ty) (Fr_know (Str.ofString "found") (.ref D) F (by first | with_unfolding_all rfl | with_unfolding_all assumption)) (by first | with_unfolding_all rfl | with_unfolding_all assumption))⟩
    clear F
    k_steps
    · refine Halt.on ?_
      rename_i hne hx1 FA NA hx2 tky ta tb tc RA FB NB KB
      have hpos : 0 < y.length := str_pos hne
      clear FA NA
      k_dflt (refine for_range (n := y.length - 1) (K2 y ty D vs nn) (by rfl) RA (range_small (by omega) (by omega) (by omega) (by omega)) (range_n (by omega)) FB NB ⟨by with_unfolding_all rfl, by with_unfolding_all rfl, rfl, 0, _, by with_unfolding_all rfl, hpos, rfl⟩ ?turn2 ?done2)
      case turn2 =>
        clear FB NB
        rintro I i m₂ nw2 t2 h9 tk9 hi ⟨n1, n2, rfl, k, tk2, n3, hk, hl⟩ F N
        obtain ⟨u5, F5⟩ : ∃ u : Str → Option Value, Fr g L' h9 (fun (z9 : Str) => if z9 = Str.ofString "at" then some (.int (1 + (i : Int)) t2) else if z9 = Str.ofString "text" then some (.str y ty) else if z9 = Str.ofString "found" then some (.ref D) else if z9 = Str.ofString "least" then some (.int ((k : Nat) : Int) tk2) else u z9) := ⟨_, (Fr_know (Str.ofString "at") (.int (1 + (i : Int)) t2) (Fr_know (Str.ofString "text") (.str y ty) (Fr_know (Str.ofString "found") (.ref D) (Fr_know (Str.ofString "least") (.int ((k : Nat) : Int) tk2) F (by first | with_unfolding_all rfl | with_unfolding_all assumption)) (by first | with_unfolding_all rfl | with_unfolding_all assumption)) (by first | with_unfolding_all rfl | with_unfolding_all assumption)) (by first | with_unfolding_all rfl | with_unfolding_all assumption))⟩
        clear F
        k_steps
        · refine Halt.on ?_
          rename_i hlt hF FX NX
          have e1 : ((i + 1 : Nat) : Int) = 1 + (i : Int) := by omega
          k_dflt (refine unr_end [(D, listOf (List.toArray vs) nn)] FX NX (by k_mem) (fun p hp => .tail _ hp) (fun p hp => by rw [List.mem_singleton.mp hp]; intro e; exact absurd (Value.type.inj e) (by decide)) ⟨by with_unfolding_all rfl, by with_unfolding_all rfl, rfl, i + 1, _, by rw [e1]; with_unfolding_all rfl, (show i + 1 < y.length by omega), ?_⟩)
          have h3 : sl (tl y) (i + 1) y.length < sl (tl y) k y.length := by rw [← tl_subI, ← tl_sub]; exact hlt
          rw [← hl, show y.length - 1 - i = (y.length - 1 - (i + 1)) + 1 by omega, least_step, if_pos h3]
        · refine Halt.on ?_
          rename_i hlt
          k_dflt (refine unr_end [(D, listOf (List.toArray vs) nn)] (by k_asm) (by k_asm) (by k_mem) (fun p hp => .tail _ hp) (fun p hp => by rw [List.mem_singleton.mp hp]; intro e; exact absurd (Value.type.inj e) (by decide)) ⟨by with_unfolding_all rfl, by with_unfolding_all rfl, rfl, k, _, by with_unfolding_all rfl, hk, ?_⟩)
          have h3 : ¬ sl (tl y) (i + 1) y.length < sl (tl y) k y.length := by rw [← tl_subI, ← tl_sub]; exact hlt
          rw [← hl, show y.length - 1 - i = (y.length - 1 - (i + 1)) + 1 by omega, least_step, if_neg h3]
      case done2 =>
        clear FB NB
        rintro m₂ nw2 h9 tk9 ⟨n1, n2, rfl, k, tk2, n3, hk, hl⟩ F N
        obtain ⟨u5, F5⟩ : ∃ u : Str → Option Value, Fr g L' h9 (fun (z9 : Str) => if z9 = Str.ofString "text" then some (.str y ty) else if z9 = Str.ofString "found" then some (.ref D) else if z9 = Str.ofString "least" then some (.int ((k : Nat) : Int) tk2) else u z9) := ⟨_, (Fr_know (Str.ofString "text") (.str y ty) (Fr_know (Str.ofString "found") (.ref D) (Fr_know (Str.ofString "least") (.int ((k : Nat) : Int) tk2) F (by first | with_unfolding_all rfl | with_unfolding_all assumption)) (by first | with_unfolding_all rfl | with_unfolding_all assumption)) (by first | with_unfolding_all rfl | with_unfolding_all assumption))⟩
        clear F
        k_steps
        rename_i FX NX
        rw [Nat.sub_self, least_stop] at hl
        obtain ⟨f5, rfl⟩ : ∃ f5, f = f5 + 1 := ⟨f - 1, by omega⟩
        have e2 := tl_to (y := y) (k := k) (by omega)
        k_dflt (refine WPost.next (f5, Txt.slice y none (some ((k : Nat) : Int)), tl (sub y (k : Int) (y.length : Int)) :: ws.map tl) [_] FX NX (fun p hp => by rw [List.mem_singleton.mp hp]; exact .head _) ⟨_, _, .str (sub y (k : Int) (y.length : Int)) _ :: vs, _, sub y (k : Int) (y.length : Int) :: ws, by with_unfolding_all rfl, by with_unfolding_all rfl, by with_unfolding_all rfl, .cons _ _ (by assumption), rfl, ?_, ?_, ?_⟩ (Nat.lt_succ_self _))
        · rw [← len_tl (Txt.slice _ _ _), e2, List.length_take, len_tl, List.length_cons]; show vs.length + 1 + min k y.length ≤ x.length; omega
        · rw [← len_tl (Txt.slice _ _ _), e2, List.length_take, len_tl]; show min k y.length ≤ f5; omega
        · have hne' : tl y ≠ [] := fun e => by have := tl_nil.mp e; omega
          rw [← hrem, byEnds_step hne', len_tl, ← hl]
          show byEnds f5 (tl (Txt.slice y none (some ((k : Nat) : Int)))) (tl (sub y (k : Int) (y.length : Int)) :: ws.map tl) = _
          rw [e2, tl_sub]
    · refine hret _ _ _ (fun b o e => Fr.keep (h₀ := g) (by assumption) b o (keepG b o e)) ⟨D, vs, nn, ws, rfl, ?_, (N _ (.head _)).1, hws, ?_⟩
      · cases e : s.heap.get? D with
        | none => rfl
        | some o => have := keepG _ _ e; rw [(N _ (.head _)).2.2] at this; cases this
      · rw [← hrem, byEnds_stop (str_nil (by assumption))]
end
end Mine
end
section
open PySem PySem.W PyProof.Rows PySem.Calls
namespace Mine
/-- a def with cells is entered; its ground holds all that stood off the ledger -/
theorem enter_cells {prog : Program} {w : World} {A₀ A : Around} {s : Shared} {base h₀ : Heap} {outer : List Env} {L : Addr} {m mg mb : Str → Option Value} {env : Env} {news : List (Addr × Obj)} {K : Frag} {p : Program} {loose : List Str} {mean : ExcName → Option Value}
    {R : Result → Shared → Prop} {name qual : Str} {params : Arguments} {body : List Stmt} {scope : Scope} {dV kV doc pm cdv ct oc : Value} {an od : Option Addr} {osl : Array (Option Value)} {f : Addr} {args : Args} {binds : List (Str × Value)}
    (B : Below A₀ base outer h₀) (F : Fr h₀ L s.heap m) (X₀ : K.In h₀) (N : News h₀ L s.heap news) (T : Top p loose mean mg mb h₀) (hA : A.frames = some (env :: outer)) (hf : env.frame = some L) (hke : env.scope.kind = .function)
    (ho : K.lookup f = some ⟨oc, od, .func (fnOf name qual params body scope dV kV doc pm an cdv ct), osl⟩) (hcd : codeIn K cdv qual = true) (hroom : A.depth < recursionLimit)
    (hbind : BindsTo s (fnOf name qual params body scope dV kV doc pm an cdv ct) args binds) (hkind : (binds.all fun y => scope.names.lookup y.1 == some .local || scope.names.lookup y.1 == some .cell) = true)
    (hnd : ((cellsFrom 0 scope.names []).map (·.1)).Nodup)
    (h : ∀ g L' h₁ tk cells, Fr h₀ L g m → Fr g L' h₁ (bindL (envOfC qual scope L' f cdv).kindOf binds fun _ => none) → News g L' h₁ (cells ++ news) →
      CellsAre (bindC (envOfC qual scope L' f cdv).kindOf binds fun _ => none) (cellsFrom (L' + 1) scope.names []) cells → Below A base (env :: outer) g → K.In g → Top p loose mean mg mb g → GSub s.heap g (news.map (·.1)) →
      wpAny (model prog w) (A.deeper (envOfC qual scope L' f cdv)) (execs body (envOfC qual scope L' f cdv))
        (fun fl s' => LeaveK h₀ L m g R (match fl with | .ret v => v | _ => .none) s')
        (fun e s' => wpAny (model prog w) (A.deeper (envOfC qual scope L' f cdv)) (leaving (envOfC qual scope L' f cdv) e) (fun _ s'' => R (.error e) s'') (fun e' s'' => R (.error e') s'') s')
        { s with heap := h₁, toks := tk })
    (hco : scope.isCoroutine = false) (hgen : scope.isGenerator = false) (hk : scope.kind = .function) : codeAny (model prog w) A (.call (.ref f) args) R s := by
  obtain ⟨FG, BG, st, back⟩ := groundX (R := R) B F N hA hf hke
  have KX : K.In s.heap := X₀.keeps F.keep
  refine codeAny_call_function hroom (KX _ _ ho) rfl hco hgen rfl (codeRec_of KX hcd) (hbind _ _ _ _ (wpAny_newFunctionEnv_cells hk (kindsX hkind _) fun env' he s' x => ?_))
  subst he
  obtain ⟨h₁, tk, rfl, _⟩ := x.done
  have up := x.toInCall.keep
  refine ⟨(T.nolimit.keeps F.keep).keeps up, codeAny_func ?_⟩
  obtain ⟨cells, NC, Y⟩ := Cl.news (h₀ := s.heap) (Nat.le_refl _) fun n c hm => ⟨x.cell n c (lookup_of_mem_nodup (cellsFrom_names scope.names 0 (s.heap.objs.size + 1) [] [] rfl ▸ hnd) hm), x.above n c hm⟩
  have F₁ : Fr (hideAll s.heap (news.map (·.1))) s.heap.objs.size h₁ _ := ⟨x.toInCall.ns, fun b o e => up b o (of_hideAll _ e), Nat.le_of_eq (hideAll_size _ _)⟩
  have N₁ : News (hideAll s.heap (news.map (·.1))) s.heap.objs.size h₁ (cells ++ news) := by
    intro p hp
    rcases List.mem_append.mp hp with hp | hp
    · have z := NC p hp
      refine ⟨z.1, z.2.1, ?_⟩
      cases q : (hideAll s.heap (news.map (·.1))).get? p.1 with
      | none => rfl
      | some o => have := of_hideAll _ q; rw [z.2.2] at this; cases this
    · exact ⟨up _ _ (N p hp).1, Nat.ne_of_lt (Heap.lt_size (N p hp).1), hideAll_none _ (List.mem_map_of_mem hp)⟩
  exact wpAny_mono (h _ s.heap.objs.size h₁ tk cells FG F₁ N₁ Y BG (X₀.keeps st) (T.keeps st) fun b o e n => hideAll_get _ e n) (fun fl s' hl => back _ _ hl) fun _ _ y => y
end Mine
end
section
open PySem PySem.W PyProof.Rows
namespace Mine

/-- lists of words, each an object of the ledger -/
inductive WaysIn (nw : List (Addr × Obj)) : List Value → List (List Wd) → Prop
  | nil : WaysIn nw [] []
  | cons {a : Addr} {vs : List Value} {nn : Nat} {ws : List Str} {r : List Value} {wss : List (List Wd)} : (a, listOf (List.toArray vs) nn) ∈ nw → StrsAre vs ws → WaysIn nw r wss → WaysIn nw (.ref a :: r) (ws.map tl :: wss)
theorem WaysIn.mono {nw nw' : List (Addr × Obj)} {vs : List Value} {wss : List (List Wd)} (h : WaysIn nw vs wss) (hs : ∀ p ∈ nw, p ∈ nw') : WaysIn nw' vs wss := by
  induction h with
  | nil => exact .nil
  | cons hm hw _ ih => exact .cons (hs _ hm) hw ih
theorem WaysIn.len {nw : List (Addr × Obj)} {vs : List Value} {wss : List (List Wd)} (h : WaysIn nw vs wss) : vs.length = wss.length := by
  induction h with
  | nil => rfl
  | cons _ _ _ ih => simp [ih]
theorem WaysIn.append {nw : List (Addr × Obj)} {vs us : List Value} {wss wts : List (List Wd)} (h : WaysIn nw vs wss) (k : WaysIn nw us wts) : WaysIn nw (vs ++ us) (wss ++ wts) := by
  induction h with
  | nil => exact k
  | cons hm hw _ ih => exact .cons hm hw ih
theorem WaysIn.get {nw : List (Addr × Obj)} {vs : List Value} {wss : List (List Wd)} (h : WaysIn nw vs wss) : ∀ (i : Nat) (v : Value), vs[i]? = some v → ∃ (a : Addr) (us : List Value) (nn : Nat) (ws : List Str), v = .ref a ∧ (a, listOf (List.toArray us) nn) ∈ nw ∧ StrsAre us ws ∧ wss[i]? = some (ws.map tl) := by
  induction h with
  | nil => intro i v hv; cases i <;> cases hv
  | @cons a us nn ws r wss hm hw _ ih =>
    intro i v hv
    cases i with
    | zero => cases hv; exact ⟨a, us, nn, ws, rfl, hm, hw, rfl⟩
    | succ i => exact ih i v hv
def WaysOut (wss : List (List Wd)) (r : Value) (H H' : Heap) : Prop :=
  ∃ D vs nn inn, r = .ref D ∧ (∀ p ∈ (D, listOf (List.toArray vs) nn) :: inn, H.get? p.1 = none ∧ H'.get? p.1 = some p.2) ∧ (∀ p ∈ inn, p.1 ≠ D) ∧ (∀ p ∈ inn, p.2.cls = .type "list") ∧ WaysIn inn vs wss
def K4 (f : Nat) (x z : Str) (tx tz : Tok) (C : Addr) (i : Nat) (m : Str → Option Value) (nw : List (Addr × Obj)) : Prop :=
  m (Str.ofString "text") = some (.str x tx) ∧ m (Str.ofString "last") = some (.str z tz) ∧ ∃ (D : Nat) (vs : List Value) (nn : Nat) (inn : List (Addr × Obj)) (o : Obj) (v0 : Option Value), m (Str.ofString "found") = some (.ref D) ∧ nw = (D, listOf (List.toArray vs) nn) :: (C, o) :: inn ∧ o.data = .cell v0 ∧
    (∀ p ∈ inn, p.1 ≠ D) ∧ (∀ p ∈ inn, p.1 ≠ C) ∧ (@Ne Nat D C) ∧ (∀ p ∈ inn, p.2.cls = .type "list") ∧ WaysIn inn vs ((List.range i).flatMap (wayG f (tl x) (tl z)))
theorem tl_to1 {x : Str} {i : Nat} (h : i + 1 ≤ x.length) : tl (Txt.slice x none (some (1 + (i : Int)))) = (tl x).take (i + 1) := by
  have := tl_to (y := x) (k := i + 1) h
  rwa [show ((i + 1 : Nat) : Int) = 1 + (i : Int) by omega] at this
theorem wayG_last {f : Nat} {l last : Wd} {e : Nat} (h : last < l.take (e + 1)) : wayG f l last e = [] := by
  unfold wayG; rw [ltB_iff.mpr h]; rfl
theorem tl_from1 {y : Str} {k : Nat} (h : k + 1 ≤ y.length) : tl (Txt.slice y (some (1 + (k : Int))) none) = (tl y).drop (k + 1) := by
  have e := eq_of_beq (slice_closes_fromL (x := y) (i := 1 + (k : Int)) (b := (y.length : Int)) (by omega) (by omega) rfl)
  rw [e]
  show List.take _ (List.drop _ _) = _
  rw [show (1 + (k : Int)).toNat = k + 1 by omega, List.take_of_length_le]
  rw [List.length_drop, show y.cps.toList.length = y.length from len_tl y]; omega
theorem less_ends {l : Wd} {e : Nat} (he : e < l.length) : lessAll (l.take (e + 1)) (l.take (e + 1)).tail = true ↔ ∀ k, k < e → l.take (e + 1) < (l.take (e + 1)).drop (k + 1) := by
  rw [lessAll_iff]
  have h1 : (l.take (e + 1)).tail.length = e := by rw [List.length_tail, List.length_take]; omega
  rw [h1]
  simp only [← List.drop_one, List.drop_drop, Nat.add_comm 1]
theorem kept_ends {l : Wd} {e : Nat} (he : e < l.length) : kept 1 (fun k => !(decide (l.take (e + 1) < (l.take (e + 1)).drop (k + 1)))) e = [] ↔ lessAll (l.take (e + 1)) (l.take (e + 1)).tail = true := by
  rw [kept_nil, less_ends he]
  simp
theorem wayG_kept {f : Nat} {l last : Wd} {e : Nat} (he : e < l.length) (h : ¬ kept 1 (fun k => !(decide (l.take (e + 1) < (l.take (e + 1)).drop (k + 1)))) e = []) : wayG f l last e = [] := by
  rw [kept_ends he] at h
  unfold wayG
  rw [Bool.eq_false_iff.mpr h, Bool.and_false, cond_false]
theorem wayG_yes {f : Nat} {l last : Wd} {e : Nat} (he : e < l.length) (h1 : ¬ last < l.take (e + 1)) (h : kept 1 (fun k => !(decide (l.take (e + 1) < (l.take (e + 1)).drop (k + 1)))) e = []) :
    wayG f l last e = (allWays f (l.drop (e + 1)) (l.take (e + 1))).map (l.take (e + 1) :: ·) := by
  rw [kept_ends he] at h
  unfold wayG
  rw [h, ltB_not.mpr h1]; rfl
theorem take_snoc {α : Type} {l : List α} {j : Nat} {a : α} (h : l[j]? = some a) : l.take (j + 1) = l.take j ++ [a] := by rw [List.take_add_one, h]; rfl
theorem fresh_of {h g : Heap} {a : Addr} (k : ∀ b o, h.get? b = some o → g.get? b = some o) (e : g.get? a = none) : h.get? a = none := by
  cases q : h.get? a with
  | none => rfl
  | some o => rw [k _ _ q] at e; cases e
section
local macro_rules | `(tactic| walk_at "call ref") => `(tactic| ((with_reducible show wpAny _ _ (call (Value.ref 365) _) _ _ _); refine Halt.mk ?_))
local macro_rules | `(tactic| k_all) => `(tactic| assumption)
local macro_rules | `(tactic| k_room) => `(tactic| ktr_room)
local macro_rules | `(tactic| k_units) => `(tactic| ktr_units)
local macro_rules | `(tactic| walk_at "call ref") => `(tactic| (k_here; (with_reducible show wpAny _ _ (call (Value.ref 332) [Value.str _ _, Value.str _ _]) _ _ _); k_dflt (refine' Calls.use (less_ok _ _ _ _ _ _ _ _) ?k1 ?k2 ?k3 ?k4 ?k5 ?kK ?kP ?kd ?ku ?_; (case k1 => k_asm); (case k2 => k_asm); (case k3 => k_asm); (case k4 => k_asm); (case k5 => k_asm); (case kK => first | exact rfl | assumption); (case kP => trivial); (case kd => ktr_room); (case ku => ktr_units)); intro r9 h9 tk9 F9 N9 K9 R9; subst R9; (try dsimp only); (try k_fold)))
local macro_rules | `(tactic| walk_at "call ref") => `(tactic| (k_here; (with_reducible show wpAny _ _ (call (Value.ref 339) [Value.str _ _, Value.int _ _, Value.int _ _]) _ _ _); k_dflt (refine' Calls.use (part_ok _ _ _ _ _ _ _ _ _ _ ?h0 ?h1 ?h2 ?hx) ?k1 ?k2 ?k3 ?k4 ?k5 ?kK ?kP ?kd ?ku ?_; (case k1 => k_asm); (case k2 => k_asm); (case k3 => k_asm); (case k4 => k_asm); (case k5 => k_asm); (case kK => first | exact rfl | assumption); (case kP => trivial); (case kd => ktr_room); (case ku => ktr_units); (case h0 => omega); (case h1 => omega); (case h2 => omega); (case hx => omega)); intro r9 h9 tk9 F9 N9 K9 R9; obtain ⟨t9, R9⟩ := R9; subst R9; (try dsimp only); (try k_fold)))
local macro_rules | `(tactic| walk_at "pyIter ref") => `(tactic| refine Halt.mk ?_)
local macro_rules | `(tactic| walk_at "UnrEnd") => `(tactic| refine Halt.mk ?_)
local macro_rules | `(tactic| walk_at "eval ListComp") => `(tactic| refine Halt.mk ?_)
local macro_rules | `(tactic| walk_at "CompSrcT") => `(tactic| refine Halt.mk ?_)
local macro_rules | `(tactic| walk_at "CompSrc") => `(tactic| refine Halt.mk ?_)
local macro_rules | `(tactic| walk_at "TestPost") => `(tactic| refine Halt.mk ?_)
local macro_rules | `(tactic| walk_at "call builtin:list.extend") => `(tactic| refine Halt.mk ?_)
local macro_rules | `(tactic| walk_at "binaryOp Add ref ref") => `(tactic| refine Halt.mk ?_)
local macro_rules | `(tactic| walk_at "call ref") => `(tactic| ((with_reducible show wpAny _ _ (call (Value.ref 365) _) _ _ _); refine Halt.mk ?_))
theorem ways_ok (w : World) (mean : ExcName → Option Value) (mg mb : Str → Option Value) : ∀ (f : Nat) (x z : Str) (tx tz : Tok), x.length < f → f ≤ 20 →
    Calls w mean mg mb 365 [.str x tx, .str z tz] (8 + 4 * f) (80 + 40 * f) (fun _ => True) (WaysOut (allWays f (tl x) (tl z))) := by
  intro f
  induction f with
  | zero => intro x z tx tz h; exact absurd h (Nat.not_lt_zero _)
  | succ f IH =>
  intro x z tx tz hx h50
  unfold Calls
  k_fill
  intro dp un gd cn cs a ccd cl outer A₀ base h₀ L m s Q E B F X T hk hP hd hu hret
  have N : News h₀ L s.heap [] := News.nil
  refine wpAny_call ?_
  k_dflt (refine' enter_cells ?k1 ?k2 ?k3 ?k4 ?k5 ?kA ?kF ?kK ?k6 ?k7 ?k8 ?k9 ?kB ?kD ?_ ?c2 ?c3 ?c4; (case kA => exact rfl); (case kF => exact rfl); (case kK => assumption); (case k1 => k_asm); (case k2 => k_asm); (case k3 => k_asm); (case k4 => k_asm); (case k5 => k_asm); (case k6 => k_is); (case k7 => k_is); (case k8 => ktr_room); (case k9 => exact BindsTo.of_eq rfl); (case kB => exact rfl); (case kD => decide +kernel); (case c2 => exact rfl); (case c3 => exact rfl); (case c4 => exact rfl); k_whole; intro g L' h' tk0 cells FG F' N' Y' B' X' T' G; k_cells Y'; (try simp only [List.cons_append, List.nil_append] at N'); (try dsimp only); (try k_fold))
  have keepG : ∀ b o, s.heap.get? b = some o → g.get? b = some o := fun b o e => G b o e (fun hb => nomatch hb)
  clear G
  rename_i o1 d1
  have d2 : o1.data = .cell none := by with_unfolding_all exact d1
  clear d1
  obtain ⟨u0, F1⟩ : ∃ u : Str → Option Value, Fr g L' h' (fun (z9 : Str) => if z9 = Str.ofString "text" then some (.str x tx) else if z9 = Str.ofString "last" then some (.str z tz) else u z9) := ⟨_, (Fr_know (Str.ofString "text") (.str x tx) (Fr_know (Str.ofString "last") (.str z tz) F' (by first | with_unfolding_all rfl | with_unfolding_all assumption)) (by first | with_unfolding_all rfl | with_unfolding_all assumption))⟩
  clear F'
  k_steps
  · rename_i hx0 E1 hx1 l1 E2 hx2 FA NA l2 kF kN kT kX
    refine hret _ _ _ (fun b o e => Fr.keep (h₀ := g) FA b o (keepG b o e)) ⟨E2, [.ref E1], 0, [(E1, listOf #[] 0)], rfl, fun p hp => ?_, fun p hp => ?_, fun p hp => (by rw [List.mem_singleton.mp hp]), ?_⟩
    · have hp' : p ∈ [(E2, listOf #[Value.ref E1] 0), (E1, listOf #[] 0), (L' + 1, o1)] := by
        rcases List.mem_cons.mp hp with rfl | hp
        · exact .head _
        · exact .tail _ ((List.mem_singleton.mp hp) ▸ .head _)
      exact ⟨fresh_of keepG (NA p hp').2.2, (NA p hp').1⟩
    · rw [List.mem_singleton.mp hp]; exact Nat.ne_of_lt l2.1
    · have e0 : tl x = [] := str_nil (by rw [bne, hx0]; rfl)
      rw [e0, allWays_nil]
      exact .cons (vs := []) (ws := []) (.head _) .nil .nil
  · refine Halt.on ?_
    rename_i D hx1 l1 hx2 FA NA hx3 tky ta tb tc RA FB NB KB
    rename (x == Str.ofString "") = false => hne
    clear FA NA
    k_dflt (refine for_range (n := x.length) (K4 f x z tx tz (L' + 1)) (by rfl) RA (range_small (by omega) (by omega) (by omega) (by omega)) (range_n (by omega)) FB NB ⟨by with_unfolding_all rfl, by with_unfolding_all rfl, D, [], _, [], o1, _, by with_unfolding_all rfl, rfl, d2, (fun _ hp => nomatch hp), (fun _ hp => nomatch hp), (by omega), (fun _ hp => nomatch hp), .nil⟩ ?turn ?done)
    case turn =>
      clear FB NB
      rintro I i m₁ nw t h tk hi ⟨m1, m2, D2, vs, nn, inn, o, v0, m3, rfl, hod, a1, a2, a3, a4, hw⟩ F N
      have hID : @Ne Nat I D2 := fun e => by
        have z1 := (N _ (.head _)).1
        have z2 := (N _ (.tail _ (.head _))).1
        dsimp only at z1 z2
        rw [show I = D2 from e, z2] at z1
        exact absurd (Value.type.inj (congrArg Obj.cls (Option.some.inj z1))) (by decide)
      have hIC : @Ne Nat I (L' + 1) := fun e => by
        have z1 := (N _ (.head _)).1
        have z2 := (N _ (.tail _ (.tail _ (.head _)))).1
        dsimp only at z1 z2
        rw [show I = L' + 1 from e, z2] at z1
        have z3 := congrArg Obj.data (Option.some.inj z1)
        rw [hod] at z3; cases z3
      have N2 : News g L' h _ := N
      clear N
      obtain ⟨u2, F2⟩ : ∃ u : Str → Option Value, Fr g L' h (fun (z9 : Str) => if z9 = Str.ofString "end" then some (.int (1 + (i : Int)) t) else if z9 = Str.ofString "text" then some (.str x tx) else if z9 = Str.ofString "last" then some (.str z tz) else if z9 = Str.ofString "found" then some (.ref D2) else u z9) := ⟨_, (Fr_know (Str.ofString "end") (.int (1 + (i : Int)) t) (Fr_know (Str.ofString "text") (.str x tx) (Fr_know (Str.ofString "last") (.str z tz) (Fr_know (Str.ofString "found") (.ref D2) F (by first | with_unfolding_all rfl | with_unfolding_all assumption)) (by first | with_unfolding_all rfl | with_unfolding_all assumption)) (by first | with_unfolding_all rfl | with_unfolding_all assumption)) (by first | with_unfolding_all rfl | with_unfolding_all assumption))⟩
      clear F
      have hoff : ∀ {h' : Heap} {oc : Obj} {us : List Value} {k : Nat} {tail all : List (Addr × Obj)}, News g L' h' all → (I, itR (1 + ((i + 1 : Nat) : Int)) ((x.length : Int) - ((i + 1 : Nat) : Int))) ∈ all → (∀ p ∈ tail, p ∈ all) → (∀ p ∈ tail, p.2.cls = .type "list") →
          ∀ p ∈ (D2, listOf (List.toArray us) k) :: (L' + 1, oc) :: tail, p.1 ≠ I := fun {h' oc us k tail all} NN hI hs hc p hp => by
        rcases List.mem_cons.mp hp with rfl | hp
        · exact Ne.symm hID
        · rcases List.mem_cons.mp hp with rfl | hp
          · exact Ne.symm hIC
          · refine off_by NN hI (hs p hp) fun e => ?_
            have := congrArg Obj.cls e
            rw [hc p hp] at this
            exact absurd (Value.type.inj this) (by decide)
      k_steps
      · refine Halt.on ?_
        rename_i hx5 oc Fc Nc dc hlt
        k_dflt (refine unr_end' ((D2, listOf (List.toArray vs) nn) :: (L' + 1, oc) :: inn) Fc Nc (.head _) (fun p hp => .tail _ hp) (hoff Nc (.head _) (fun p hp => .tail _ (.tail _ (.tail _ hp))) a4) ⟨by with_unfolding_all rfl, by with_unfolding_all rfl, D2, vs, nn, inn, oc, _, by with_unfolding_all rfl, rfl, dc, a1, a2, a3, a4, ?_⟩)
        rw [range_flat, wayG_last (by rw [← tl_to1 (x := x) (i := i) (by omega)]; exact hlt), List.append_nil]
        exact hw
      · refine Halt.on ?_
        rename_i tW kW lW hx5 oc Fc Nc dc hlt
        k_dflt (refine LCt.ListComp_T (F₀ := Fc) (by with_unfolding_all rfl) (by decide) (by rfl) (by decide) (by rfl) ?_)
        k_steps
        refine Halt.on ?_
        k_dflt (refine LCt.CompSrcT.range (n := i) (by rfl) (by k_asm) (by k_asm) (by assumption) (range_small (by omega) (by omega) (by omega) (by omega)) (range_n (by omega)) (by show i ≤ sizeLine; rw [sizeLine_eq]; omega) ?_)
        intro g1
        refine rest_filter (fun k => !(decide ((tl x).take (i + 1) < ((tl x).take (i + 1)).drop (k + 1)))) trivial ?turn3 ?fin3
        case turn3 =>
          intro k t3 ys I2 oI C2 oC D3 m₃ h3 tk3 E' hk3 hC hx3 F N off ne
          have q1 : (Txt.slice x none (some (1 + (i : Int)))).cps.toList = (tl x).take (i + 1) := tl_to1 (by omega)
          have q2 : (Txt.slice (Txt.slice x none (some (1 + (i : Int)))) (some (1 + (k : Int))) none).cps.toList = ((tl x).take (i + 1)).drop (k + 1) := by
            rw [← q1]; exact tl_from1 (by rw [← len_tl, show tl _ = _ from q1, List.length_take, len_tl]; omega)
          k_steps
          refine Halt.on ⟨fun hok => ⟨?_, ?_⟩, fun hok => ⟨?_, ?_⟩⟩
          · rw [q1, q2] at hok; exact hok
          · k_steps
            exact ⟨rfl, FrNews.mk (by k_asm) (by k_asm) fun p hp => hp⟩
          · rw [q1, q2] at hok; exact hok
          · exact FrNews.mk (by k_asm) (by k_asm) fun p hp => hp
        case fin3 =>
          intro ys hys
          k_steps
          · refine Halt.on ?_
            rename_i Dk hk1 tkk hoff1 lk hk2 Fk Nk l3 hkept
            have hkept' := of_decide_eq_true hkept
            k_dflt (refine LCg.ListComp_U (F₀ := Fk) (by with_unfolding_all rfl) (by decide) (by rfl) (by decide) (by rfl) ?_)
            k_steps
            refine Halt.on ?_
            rename_i h6 t6 k6 F6 N6 lsl
            have q1 : tl (Txt.slice x none (some (1 + (i : Int)))) = (tl x).take (i + 1) := tl_to1 (by omega)
            have q3 : tl (Txt.slice x (some (1 + (i : Int))) none) = (tl x).drop (i + 1) := tl_from1 (by omega)
            k_dflt (refine' Calls.use (IH _ _ _ _ ?hl ?h5) ?k1 ?k2 ?k3 ?k4 ?k5 ?kK ?kP ?kd ?ku ?_; (case k1 => k_asm); (case k2 => exact F6); (case k3 => k_asm); (case k4 => exact N6); (case k5 => k_asm); (case kK => first | exact rfl | assumption); (case kP => trivial); (case kd => ktr_room); (case ku => ktr_units); (case hl => (rw [← len_tl, q3, List.length_drop, len_tl]; omega)); (case h5 => omega))
            intro r9 h9 tk9 F9 N9 K9 R9
            obtain ⟨D9, vs9, nn9, inn9, rfl, hh9, ha9, hc9, hw9⟩ := R9
            rw [q1, q3] at hw9
            have hap := apart_many N6 (fun p hp => (hh9 p hp).1)
            have NA := news_many F6 N9 hh9
            have e1 : @Ne Nat D9 I := hap _ (.head _) _ (.tail _ (.tail _ (.head _)))
            have e2 : @Ne Nat D9 D2 := hap _ (.head _) _ (.tail _ (.tail _ (.tail _ (.head _))))
            have e3 : @Ne Nat D9 (L' + 1) := hap _ (.head _) _ (.tail _ (.tail _ (.tail _ (.tail _ (.head _)))))
            obtain ⟨TT, hTT⟩ : ∃ TT, TT = inn9 ++ inn := ⟨_, rfl⟩
            have t1 : ∀ p ∈ TT, p.1 ≠ D2 := fun p hp => by
              rw [hTT] at hp
              exact (List.mem_append.mp hp).elim (fun hp => hap _ (.tail _ hp) _ (.tail _ (.tail _ (.tail _ (.head _))))) (a1 p)
            have t2 : ∀ p ∈ TT, p.1 ≠ L' + 1 := fun p hp => by
              rw [hTT] at hp
              exact (List.mem_append.mp hp).elim (fun hp => hap _ (.tail _ hp) _ (.tail _ (.tail _ (.tail _ (.tail _ (.head _)))))) (a2 p)
            have t4 : ∀ p ∈ TT, p.2.cls = .type "list" := fun p hp => by
              rw [hTT] at hp
              exact (List.mem_append.mp hp).elim (hc9 p) (a4 p)
            have w1 : WaysIn TT vs ((List.range i).flatMap (wayG f (tl x) (tl z))) := hw.mono fun p hp => by rw [hTT]; exact List.mem_append.mpr (.inr hp)
            have w2 : WaysIn TT vs9 (allWays f ((tl x).drop (i + 1)) ((tl x).take (i + 1))) := hw9.mono fun p hp => by rw [hTT]; exact List.mem_append.mpr (.inl hp)
            have hG : wayG f (tl x) (tl z) i = (allWays f ((tl x).drop (i + 1)) ((tl x).take (i + 1))).map ((tl x).take (i + 1) :: ·) := wayG_yes (by rw [len_tl]; omega) (by rw [← q1]; exact hlt) hkept'
            have hfew : vs.length + vs9.length ≤ 2 ^ 19 := by
              have h1 := ways_few f (tl x) (tl z) (i + 1) (by rw [len_tl]; omega)
              rw [range_flat, List.length_append, hG, List.length_map, ← hw.len, ← hw9.len, len_tl] at h1
              exact Nat.le_trans h1 (Nat.pow_le_pow_right (by decide) (by omega))
            have NB : News g L' h9 ((D9, listOf (List.toArray vs9) nn9) :: (I, itR (1 + ((i + 1 : Nat) : Int)) ((x.length : Int) - ((i + 1 : Nat) : Int))) :: (D2, listOf (List.toArray vs) nn) :: (L' + 1, oc) :: TT) := fun p hp => by
              refine NA p ?_
              rcases List.mem_cons.mp hp with rfl | hp
              · exact .head _
              · refine List.mem_append.mpr ?_
                rcases List.mem_cons.mp hp with rfl | hp
                · exact .inr (.tail _ (.tail _ (.head _)))
                · rcases List.mem_cons.mp hp with rfl | hp
                  · exact .inr (.tail _ (.tail _ (.tail _ (.head _))))
                  · rcases List.mem_cons.mp hp with rfl | hp
                    · exact .inr (.tail _ (.tail _ (.tail _ (.tail _ (.head _)))))
                    · rw [hTT] at hp
                      exact (List.mem_append.mp hp).elim (fun h => .inl (.tail _ h)) fun h => .inr (.tail _ (.tail _ (.tail _ (.tail _ (.tail _ h)))))
            clear N9 NA F6 N6 hap hh9 ha9 hc9 hw9 hw K9 hTT
            (try dsimp only)
            (try k_fold)
            k_steps
            refine Halt.on ?_
            k_dflt (refine LCg.CompSrc.ledger (its := List.toArray vs9) (k := nn9) (by rfl) F9 NB (.head _) (by rw [List.size_toArray, sizeLine_eq]; omega) ?_)
            intro g2
            have wl := w2.len
            refine rest_made (fun j ys nw => ∃ add, nw = (D9, listOf (List.toArray vs9) nn9) :: (I, itR (1 + ((i + 1 : Nat) : Int)) ((x.length : Int) - ((i + 1 : Nat) : Int))) :: (D2, listOf (List.toArray vs) nn) :: (L' + 1, oc) :: (add ++ TT) ∧
              WaysIn add ys (((allWays f ((tl x).drop (i + 1)) ((tl x).take (i + 1))).take j).map ((tl x).take (i + 1) :: ·)) ∧ (∀ p ∈ add, p.1 ≠ D2 ∧ p.1 ≠ L' + 1 ∧ p.2.cls = .type "list")) (fun _ _ _ ⟨add, e, _⟩ => .inr ⟨listOf (List.toArray vs9) nn9, by rw [e]; exact .head _, rfl, _, rfl⟩) ⟨[], rfl, .nil, fun _ hp => nomatch hp⟩ ?turn5 ?fin5
            case turn5 =>
              clear NB F9
              rintro j v ys nw I2 oI C2 oC D3 m₃ h3 tk3 E' hj hv ⟨add, rfl, hwa, hadd⟩ hC hx3 F N off ne
              have hj' : j < vs9.length := by rwa [List.size_toArray] at hj
              obtain ⟨a9, us9, nu9, ws9, rfl, hm9, hs9, he9⟩ := w2.get j v (by simpa using hv)
              have hm9' : (a9, listOf (List.toArray us9) nu9) ∈ add ++ TT := List.mem_append.mpr (.inr hm9)
              k_steps
              refine Halt.on ?_
              rename_i lw hw0 Fw Nw lw1
              have hwlen : us9.length ≤ x.length := by
                have h1 := allWays_words f ((tl x).drop (i + 1)) ((tl x).take (i + 1)) (ws9.map tl) (List.mem_of_getElem? he9)
                rw [List.length_map, ← hs9.len_eq, List.length_drop, len_tl] at h1
                omega
              k_dflt (refine kmk_add_lit (zs := Value.str (Txt.slice x none (some (1 + (i : Int)))) tW :: us9) Fw Nw (Nw.isList (.head _)) (Nw.isList (.tail _ (.tail _ (.tail _ (.tail _ (.tail _ (.tail _ (.tail _ (.tail _ hm9'))))))))) rfl ?_ (by show 1 + us9.length ≤ sizeLine; rw [sizeLine_eq]; omega))
              intro Dc hc0 Fc Nc lc
              have om := LCg.Off3.mem off
              refine ElPost.mk ((D9, listOf (List.toArray vs9) nn9) :: (I, itR (1 + ((i + 1 : Nat) : Int)) ((x.length : Int) - ((i + 1 : Nat) : Int))) :: (D2, listOf (List.toArray vs) nn) :: (L' + 1, oc) :: (((Dc, listOf (List.toArray (Value.str (Txt.slice x none (some (1 + (i : Int)))) tW :: us9)) 0) :: add) ++ TT)) Fc Nc (fun p hp => ?_) (fun p hp => ?_) ⟨(Dc, listOf (List.toArray (Value.str (Txt.slice x none (some (1 + (i : Int)))) tW :: us9)) 0) :: add, rfl, ?_, fun p hp => ?_⟩
              · simp only [List.mem_cons, List.mem_append, List.cons_append] at hp ⊢
                grind
              · have l1 := lc _ (.tail _ (.head _))
                have l2 := lc _ (.tail _ (.tail _ (.head _)))
                have l3 := lc _ (.tail _ (.tail _ (.tail _ (.head _))))
                by_cases hpc : p = (Dc, listOf (List.toArray (Value.str (Txt.slice x none (some (1 + (i : Int)))) tW :: us9)) 0)
                · rw [hpc]; exact ⟨Nat.ne_of_gt l1, Nat.ne_of_gt l2, Nat.ne_of_gt l3⟩
                · refine om p ?_
                  simp only [List.mem_cons, List.mem_append, List.cons_append] at hp ⊢
                  grind
              · rw [take_snoc he9, List.map_append]
                refine (hwa.mono fun p hp => .tail _ hp).append ?_
                have e5 : (Txt.slice x none (some (1 + (i : Int))) :: ws9).map tl = (tl x).take (i + 1) :: ws9.map tl := by rw [List.map_cons, q1]
                show WaysIn _ [.ref Dc] [(tl x).take (i + 1) :: ws9.map tl]
                rw [← e5]
                exact .cons (.head _) (.cons _ _ hs9) .nil
              · rcases List.mem_cons.mp hp with rfl | hp
                · exact ⟨Nat.ne_of_gt (lc _ (.tail _ (.tail _ (.tail _ (.tail _ (.tail _ (.tail _ (.head _)))))))), Nat.ne_of_gt (lc _ (.tail _ (.tail _ (.tail _ (.tail _ (.tail _ (.tail _ (.tail _ (.head _))))))))), rfl⟩
                · exact hadd p hp
            case fin5 =>
              clear NB F9
              rintro ys nw ⟨add, rfl, hwa, hadd⟩
              k_steps
              refine Halt.on ?_
              rename_i Dx hx7 tk7 Fx Nx ox
              obtain ⟨o1', o2', o3', o4', _⟩ := ox
              rw [List.size_toArray, wl, List.take_length] at hwa
              have ylen : ys.length = vs9.length := hwa.len.trans (by rw [List.length_map, ← wl])
              have up : ∀ p ∈ (L' + 1, oc) :: (add ++ TT), p.1 ≠ D2 := fun p hp => by
                rcases List.mem_cons.mp hp with rfl | hp
                · exact Ne.symm a3
                · exact (List.mem_append.mp hp).elim (fun h => (hadd p h).1) (t1 p)
              k_dflt (refine extend_any (us := vs) (vs := ys) (n := nn) (n2 := ys.length) (news' := fun k => (Dx, LCg.lst ys) :: (D9, listOf (List.toArray vs9) nn9) :: (I, itR (1 + ((i + 1 : Nat) : Int)) ((x.length : Int) - ((i + 1 : Nat) : Int))) :: (D2, listOf (List.toArray (vs ++ ys)) k) :: (L' + 1, oc) :: (add ++ TT)) Fx Nx (.head _) (fun k => .tail (Ne.symm o3') (.tail e2 (.tail hID (.head up)))) (by rw [ylen, sizeLine_eq]; omega) ?_)
              intro k8 h8 F8 N8
              clear Fx Nx
              (try dsimp only)
              (try k_fold)
              k_steps
              refine Halt.on ?_
              have tc : ∀ p ∈ add ++ TT, p.2.cls = .type "list" := fun p hp => (List.mem_append.mp hp).elim (fun h => (hadd p h).2.2) (t4 p)
              k_dflt (refine unr_end' ((D2, listOf (List.toArray (vs ++ ys)) k8) :: (L' + 1, oc) :: (add ++ TT)) F8 N8 (.tail _ (.tail _ (.head _))) (fun p hp => .tail _ (.tail _ (.tail _ hp))) (hoff N8 (.tail _ (.tail _ (.head _))) (fun p hp => .tail _ (.tail _ (.tail _ (.tail _ (.tail _ hp))))) tc) ⟨by with_unfolding_all rfl, by with_unfolding_all rfl, D2, vs ++ ys, k8, add ++ TT, oc, _, by with_unfolding_all rfl, rfl, dc, (fun p hp => up p (.tail _ hp)), (fun p hp => (List.mem_append.mp hp).elim (fun h => (hadd p h).2.1) (t2 p)), a3, tc, ?_⟩)
              rw [range_flat, hG]
              exact (w1.mono fun p hp => List.mem_append.mpr (.inr hp)).append (hwa.mono fun p hp => List.mem_append.mpr (.inl hp))
          · refine Halt.on ?_
            rename_i Dk hk1 tkk hoff1 lk hk2 Fk Nk l3 hkept
            have hkept' := of_decide_eq_false hkept
            k_dflt (refine unr_end' ((D2, listOf (List.toArray vs) nn) :: (L' + 1, oc) :: inn) Fk Nk (.tail _ (.tail _ (.head _))) (fun p hp => .tail _ (.tail _ (.tail _ hp))) (hoff Nk (.tail _ (.tail _ (.head _))) (fun p hp => .tail _ (.tail _ (.tail _ (.tail _ (.tail _ hp))))) a4) ⟨by with_unfolding_all rfl, by with_unfolding_all rfl, D2, vs, nn, inn, oc, _, by with_unfolding_all rfl, rfl, dc, a1, a2, a3, a4, ?_⟩)
            rw [range_flat, wayG_kept (by rw [len_tl]; omega) hkept', List.append_nil]
            exact hw
    case done =>
      clear FB NB
      rintro m₁ nw h tk ⟨m1, m2, D2, vs, nn, inn, o, v0, m3, rfl, hod, a1, a2, a3, a4, hw⟩ F N
      have N2 : News g L' h _ := N
      clear N
      obtain ⟨u2, F2⟩ : ∃ u : Str → Option Value, Fr g L' h (fun (z9 : Str) => if z9 = Str.ofString "text" then some (.str x tx) else if z9 = Str.ofString "last" then some (.str z tz) else if z9 = Str.ofString "found" then some (.ref D2) else u z9) := ⟨_, (Fr_know (Str.ofString "text") (.str x tx) (Fr_know (Str.ofString "last") (.str z tz) (Fr_know (Str.ofString "found") (.ref D2) F (by first | with_unfolding_all rfl | with_unfolding_all assumption)) (by first | with_unfolding_all rfl | with_unfolding_all assumption)) (by first | with_unfolding_all rfl | with_unfolding_all assumption))⟩
      clear F
      k_steps
      refine hret _ _ _ (fun b o e => Fr.keep (h₀ := g) F2 b o (keepG b o e)) ⟨D2, vs, nn, inn, rfl, fun p hp => ?_, a1, a4, ?_⟩
      · have hp' : p ∈ (D2, listOf (List.toArray vs) nn) :: (L' + 1, o) :: inn := by
          rcases List.mem_cons.mp hp with rfl | hp
          · exact .head _
          · exact .tail _ (.tail _ hp)
        exact ⟨fresh_of keepG (N2 p hp').2.2, (N2 p hp').1⟩
      · have hne' : tl x ≠ [] := fun e => by
          have := tl_nil.mp e
          have h0 := str_pos (y := x) (by rw [bne, hne]; rfl)
          omega
        rw [allWays_cons hne', len_tl]
        exact hw
end
end Mine
end
section
open PySem PySem.W PyProof.Rows
namespace Mine
section
local macro_rules | `(tactic| k_room) => `(tactic| ktr_room)
local macro_rules | `(tactic| k_units) => `(tactic| ktr_units)
theorem sign_ok (w : World) (mean : ExcName → Option Value) (mg mb : Str → Option Value) (b l : Nat) (vs : List Value) (ns : List Int) (nb nl : Nat) (spot below : Int) (ts tb : Tok) (hns : IntsAre vs ns) (hlen : ns.length ≤ 16) (h0 : 0 ≤ spot) (h1 : spot ≤ 100) (h2 : 0 < below) (h3 : below ≤ 100) (hbl : @Ne Nat b l)
    (dp un : Nat) (gd : Option (List Code)) (cn : Str) (cs : Scope) (a : Addr) (ccd : Value) (cl : List (Str × Addr)) (outer : List Env) (A₀ : Around) (base h₀ : Heap) (L : Addr) (m : Str → Option Value) (s : Shared) (Q E : Value → Shared → Prop)
    (B : Below A₀ base outer h₀) (F : Fr h₀ L s.heap m) (X : (Mine.frag.heap_1 w.params).In h₀) (T : Top Mine.vw (looseW Mine.vw [Str.ofString "BasicError"]) mean mg mb h₀) (hk : cs.kind = .function)
    (N : News h₀ L s.heap [(b, listOf #[.ref l, .int spot ts] nb), (l, listOf (List.toArray vs) nl)]) (hd : dp + 4 < recursionLimit) (hu : un + 40 < cLine)
    (hret : ∀ r t1 t2 nb' h' tk', Fr h₀ L h' m → News h₀ L h' [(b, listOf #[.ref l, .int (spot + 1) t1] nb'), (l, listOf (List.toArray vs) nl)] → (∀ c o, c ≠ b → s.heap.get? c = some o → h'.get? c = some o) → 0 ≤ r → r < below → Q (.int r t2) { s with heap := h', toks := tk' }) :
    wpAny (model PySem.Challenge.rw_xm0041_01.row.prog w) (ktrTop dp un gd cn cs L a ccd cl outer) (call (.ref 325) [.ref b, .int below tb]) Q E s := by
  revert X
  k_fill
  intro X
  refine wpAny_call ?_
  k_dflt (refine' code_defG ?k1 ?k2 ?k3 ?k4 ?k5 ?kA ?kF ?kK ?k6 ?k7 ?k8 ?k9 ?kB ?_ ?c2 ?c3 ?c4 ?c5; (case kA => exact rfl); (case kF => exact rfl); (case kK => assumption); (case k1 => k_asm); (case k2 => k_asm); (case k3 => k_asm); (case k4 => k_asm); (case k5 => k_asm); (case k6 => k_is); (case k7 => k_is); (case k8 => ktr_room); (case k9 => exact BindsTo.of_eq rfl); (case c5 => decide); (case kB => exact locs rfl); (case c2 => exact rfl); (case c3 => exact rfl); (case c4 => exact rfl); k_whole; intro g L' h' FG F' N' B' X' T' G; (try dsimp only); (try k_fold))
  obtain ⟨u0, F1⟩ : ∃ u : Str → Option Value, Fr g L' h' (fun (z9 : Str) => if z9 = Str.ofString "bag" then some (.ref b) else if z9 = Str.ofString "below" then some (.int below tb) else u z9) := ⟨_, (Fr_know (Str.ofString "bag") (.ref b) (Fr_know (Str.ofString "below") (.int below tb) F' (by first | with_unfolding_all rfl | with_unfolding_all assumption)) (by first | with_unfolding_all rfl | with_unfolding_all assumption))⟩
  clear F'
  generalize s.toks + List.length _ = tk0
  k_steps
  all_goals (
    rename_i kF kN kT kX
    refine hret _ _ _ _ _ _ kF kN (fun c o hc e => ?_) (Int.fmod_nonneg_of_pos _ h2) (Int.fmod_lt_of_pos _ h2)
    by_cases hcl : c = l
    · have z1 := (N _ (.tail _ (.head _))).1
      have z2 := (kN _ (.tail _ (.head _))).1
      dsimp only at z1 z2
      rw [hcl] at e ⊢
      rw [z1] at e
      cases e
      exact z2
    · exact Fr.keep (h₀ := g) (by assumption) c o (G c o e (fun hb => by
        rcases List.mem_cons.mp hb with h | h
        · exact hc h
        · exact hcl (List.mem_singleton.mp h))))
end
end Mine
end
section
open PySem PySem.W PyProof.Rows
namespace Mine
section
local macro_rules | `(tactic| k_room) => `(tactic| ktr_room)
local macro_rules | `(tactic| k_units) => `(tactic| ktr_units)
theorem join_ok (w : World) (mean : ExcName → Option Value) (mg mb : Str → Option Value) (x y : Str) (tx ty : Tok) (hx : x.length + y.length ≤ 100) :
    Calls w mean mg mb 318 [.str x tx, .str y ty] 4 40 (fun _ => True) (fun r _ _ => ∃ t, r = .str (x ++ y) t) := by
  unfold Calls
  k_fill
  intro dp un gd cn cs a ccd cl outer A₀ base h₀ L m s Q E B F X T hk hP hd hu hret
  have N : News h₀ L s.heap [] := News.nil
  refine wpAny_call ?_
  k_dflt (refine' code_defG ?k1 ?k2 ?k3 ?k4 ?k5 ?kA ?kF ?kK ?k6 ?k7 ?k8 ?k9 ?kB ?_ ?c2 ?c3 ?c4 ?c5; (case kA => exact rfl); (case kF => exact rfl); (case kK => assumption); (case k1 => k_asm); (case k2 => k_asm); (case k3 => k_asm); (case k4 => k_asm); (case k5 => k_asm); (case k6 => k_is); (case k7 => k_is); (case k8 => ktr_room); (case k9 => exact BindsTo.of_eq rfl); (case c5 => decide); (case kB => exact locs rfl); (case c2 => exact rfl); (case c3 => exact rfl); (case c4 => exact rfl); k_whole; intro g L' h' FG F' N' B' X' T' G; (try dsimp only); (try k_fold))
  have keepG : ∀ b o, s.heap.get? b = some o → g.get? b = some o := fun b o e => G b o e (fun hb => nomatch hb)
  clear G
  obtain ⟨u0, F1⟩ : ∃ u : Str → Option Value, Fr g L' h' (fun (z9 : Str) => if z9 = Str.ofString "one" then some (.str x tx) else if z9 = Str.ofString "other" then some (.str y ty) else u z9) := ⟨_, (Fr_know (Str.ofString "one") (.str x tx) (Fr_know (Str.ofString "other") (.str y ty) F' (by first | with_unfolding_all rfl | with_unfolding_all assumption)) (by first | with_unfolding_all rfl | with_unfolding_all assumption))⟩
  clear F'
  generalize s.toks + List.length _ = tk0
  k_steps
  exact hret _ _ _ (fun b o e => Fr.keep (h₀ := g) (by assumption) b o (keepG b o e)) ⟨_, rfl⟩
end
end Mine
end
section
open PySem PySem.W PyProof.Rows PySem.Spec
namespace Mine
theorem eqv_strs : ∀ ws : List Str, PyData.eqvAll (ws.map PyData.str) (ws.map PyData.str) = true
  | [] => rfl
  | a :: r => by simp [PyData.eqvAll, PyData.eqv, eqv_strs r]
theorem lay_strs : ∀ ws : List Str, (∀ w ∈ ws, PyData.strOk w = true) → PyData.canLayAll0 (ws.map PyData.str) = true ∧ PyData.depthAll (ws.map PyData.str) = 0
  | [], _ => ⟨rfl, rfl⟩
  | a :: r, h => by
    have ih := lay_strs r (fun w hw => h w (.tail _ hw))
    simp [PyData.canLayAll0, PyData.depthAll, PyData.canLay0, PyData.depth, ih.1, ih.2, h a (.head _)]
theorem shaped_strs (ws : List Str) (hk : ∀ w ∈ ws, PyData.strOk w = true) : SeqAt.shaped (.list (ws.map PyData.str)) = true := by
  have h := lay_strs ws hk
  simp [SeqAt.shaped, PyData.canLay0, PyData.depth, h.1, h.2]
theorem shaped_ways (ws : List Str) (hk : ∀ w ∈ ws, PyData.strOk w = true) : SeqAt.shaped (.list [.list (ws.map PyData.str)]) = true := by
  have h := lay_strs ws hk
  simp [SeqAt.shaped, PyData.canLay0, PyData.depth, PyData.canLayAll0, PyData.depthAll, h.1, h.2]
section
variable {prog : Program} {w : World} {A : Around} {E : Value → Shared → Prop} {s : Shared} {h₀ : Heap} {L : Addr} {m : Str → Option Value} {news : List (Addr × Obj)} {Q : Value → Shared → Prop}
theorem reads_words {a : Addr} {vs : List Value} {n : Nat} {ws : List Str} (N : News h₀ L s.heap news) (ha : (a, listOf (List.toArray vs) n) ∈ news) (hs : StrsAre vs ws) : Reads s.heap (.ref a) (.list (ws.map PyData.str)) [a] :=
  reads_list_at (N _ ha).1 rfl rfl (strs_readAll s.heap hs)
theorem eq_words {a b : Addr} {vs us : List Value} {n k : Nat} {ws : List Str} (N : News h₀ L s.heap news) (ha : (a, listOf (List.toArray vs) n) ∈ news) (hb : (b, listOf (List.toArray us) k) ∈ news) (hs : StrsAre vs ws) (ht : StrsAre us ws) (hk : ∀ w ∈ ws, PyData.strOk w = true) (hu : A.units + 64 < cLine)
    (h : Q (.bool true) s) : wpAny (model prog w) A (compareOp .Eq (.ref a) (.ref b)) Q E s :=
  eq_dataH (reads_words N ha hs) (reads_words N hb ht) (shaped_strs ws hk) (shaped_strs ws hk) hu (by rw [PyData.eqv, eqv_strs]; exact h)
theorem ne_words {a b : Addr} {vs us : List Value} {n k : Nat} {ws : List Str} (N : News h₀ L s.heap news) (ha : (a, listOf (List.toArray vs) n) ∈ news) (hb : (b, listOf (List.toArray us) k) ∈ news) (hs : StrsAre vs ws) (ht : StrsAre us ws) (hk : ∀ w ∈ ws, PyData.strOk w = true) (hu : A.units + 64 < cLine)
    (h : Q (.bool false) s) : wpAny (model prog w) A (compareOp .NotEq (.ref a) (.ref b)) Q E s :=
  ne_dataH (reads_words N ha hs) (reads_words N hb ht) (shaped_strs ws hk) (shaped_strs ws hk) hu (by rw [PyData.eqv, eqv_strs]; exact h)
theorem ne_ways {a b a1 b1 : Addr} {vs us : List Value} {n k n1 k1 : Nat} {ws : List Str} (N : News h₀ L s.heap news) (hA : (a1, listOf #[.ref a] n1) ∈ news) (hB : (b1, listOf #[.ref b] k1) ∈ news) (ha : (a, listOf (List.toArray vs) n) ∈ news) (hb : (b, listOf (List.toArray us) k) ∈ news) (hs : StrsAre vs ws) (ht : StrsAre us ws) (hk : ∀ w ∈ ws, PyData.strOk w = true) (hu : A.units + 64 < cLine)
    (h : Q (.bool false) s) : wpAny (model prog w) A (compareOp .NotEq (.ref a1) (.ref b1)) Q E s :=
  ne_dataH (reads_list_at (N _ hA).1 rfl rfl (.cons (reads_words N ha hs) .nil)) (reads_list_at (N _ hB).1 rfl rfl (.cons (reads_words N hb ht) .nil)) (shaped_ways ws hk) (shaped_ways ws hk) hu (by
    have e : PyData.eqv (.list [.list (ws.map PyData.str)]) (.list [.list (ws.map PyData.str)]) = true := by simp [PyData.eqv, PyData.eqvAll, eqv_strs]
    rw [e]; exact h)
end
theorem tl_inj {x y : Str} (h : tl x = tl y) : x = y := Str.ext' (Array.toList_inj.mp h)
theorem map_tl_inj : ∀ {xs ys : List Str}, xs.map tl = ys.map tl → xs = ys
  | [], [], _ => rfl
  | [], _ :: _, h => by cases h
  | _ :: _, [], h => by cases h
  | x :: xs, y :: ys, h => by
    simp only [List.map_cons, List.cons.injEq] at h
    rw [tl_inj h.1, map_tl_inj h.2]
section
variable {prog : Program} {w : World} {A : Around} {E : Value → Shared → Prop} {s : Shared} {h₀ : Heap} {L : Addr} {m : Str → Option Value} {news : List (Addr × Obj)} {Q : Value → Shared → Prop}
theorem item_word {value slice : PySem.Expr} {R : Addr} {vr : List Value} {nr : Nat} {wr : List Str} {k : Int} {u : Tok} (N : News h₀ L s.heap news) (hm : (R, listOf (List.toArray vr) nr) ∈ news) (hw : StrsAre vr wr) (h0 : 0 ≤ k) (hk : k < (wr.length : Int)) (hfit : k < 2 ^ 63)
    (h : ∀ t, Q (.str (wr.getD k.toNat ⟨#[]⟩) t) s)
    (hs : subscripted slice false (.ref R) (.int k u) = operate [.ref R, .int k u] (getItem (.ref R) (.int k u)) := by with_unfolding_all rfl) (hg : ∀ r, letTemporaryGo value (.ref R) r = pure () := by intro _; with_unfolding_all rfl) :
    wpAny (model prog w) A (subscriptTail value slice (.ref R) (.int k u)) Q E s := by
  have hk' : k.toNat < wr.length := by omega
  obtain ⟨t, ht⟩ := hw.at (j := k.toNat) (y := wr.getD k.toNat ⟨#[]⟩) (by rw [List.getD_eq_getElem?_getD, List.getElem?_eq_getElem hk']; rfl)
  exact item_list (N.isList hm) h0 hfit (by simpa using ht) (h t) hs hg
theorem len_words {R : Addr} {vr : List Value} {nr : Nat} (N : News h₀ L s.heap news) (hm : (R, listOf (List.toArray vr) nr) ∈ news) (hfit : vr.length ≤ 1000) (h : ∀ t tk, Q (.int (vr.length : Int) t) { s with toks := tk }) :
    wpAny (model prog w) A (call (.builtin "len") [.ref R]) Q E s :=
  len_list (N.isList hm) (by rw [List.size_toArray]; omega) (by rw [List.size_toArray]; exact h _ _)
end
theorem getD_tl (wr : List Str) (k : Nat) : (wr.map tl).getD k [] = tl (wr.getD k ⟨#[]⟩) := by
  rw [List.getD_eq_getElem?_getD, List.getD_eq_getElem?_getD, List.getElem?_map]
  cases wr[k]? <;> rfl
theorem kept_len (a : Int) (p : Nat → Bool) (n : Nat) : (kept a p n).length ≤ n := by
  unfold kept
  rw [List.length_map]
  exact Nat.le_trans (List.length_filter_le _ _) (by rw [List.length_range]; exact Nat.le_refl _)
theorem kept_at {a : Int} {p : Nat → Bool} {n j : Nat} (h : j < (kept a p n).length) : ∃ k : Nat, k < n ∧ p k = true ∧ (kept a p n)[j]? = some (a + (k : Int)) := by
  obtain ⟨v, hv⟩ : ∃ v, (kept a p n)[j]? = some v := ⟨_, List.getElem?_eq_getElem h⟩
  have hm : v ∈ kept a p n := List.mem_of_getElem? hv
  unfold kept at hm
  obtain ⟨k, hk, e⟩ := List.mem_map.mp hm
  have hk2 := List.mem_filter.mp hk
  exact ⟨k, List.mem_range.mp hk2.1, hk2.2, by rw [hv, ← e]⟩
theorem word_len {wr : List Str} {l : Wd} (h : (wr.map tl).flatten = l) {k : Nat} (hk : k < wr.length) : (wr.getD k ⟨#[]⟩).length ≤ l.length := by
  rw [← h, ← len_tl]
  have hm : tl (wr.getD k ⟨#[]⟩) ∈ wr.map tl := by
    rw [List.getD_eq_getElem?_getD, List.getElem?_eq_getElem hk]
    exact List.mem_map.mpr ⟨_, List.getElem_mem hk, rfl⟩
  generalize tl (wr.getD k ⟨#[]⟩) = u at hm
  generalize wr.map tl = ls at hm
  induction ls with
  | nil => cases hm
  | cons a r ih =>
    rw [List.flatten_cons, List.length_append]
    rcases List.mem_cons.mp hm with rfl | hm
    · omega
    · have := ih hm; omega
theorem word_mem {wr : List Str} {k : Nat} (hk : k < wr.length) : wr.getD k ⟨#[]⟩ ∈ wr := by
  rw [List.getD_eq_getElem?_getD, List.getElem?_eq_getElem hk]; exact List.getElem_mem hk
end Mine
end
section
namespace Mine
def ABC (l : Wd) : Prop := ∀ c ∈ l, c = 65 ∨ c = 66 ∨ c = 67
def Lyn (w : Wd) : Prop := w ≠ [] ∧ ∀ i, 0 < i → i < w.length → w < w.drop i
theorem lyn_one (c : Nat) : Lyn [c] := ⟨by simp, fun i h1 h2 => by simp at h2; omega⟩

/-! the order of words -/
theorem lt_split : ∀ {a b : Wd}, a < b → (∃ c, c ≠ [] ∧ b = a ++ c) ∨ ∃ p x y s t, a = p ++ x :: s ∧ b = p ++ y :: t ∧ x < y
  | _, [], h => by simp at h
  | [], b :: t, _ => .inl ⟨b :: t, by simp, rfl⟩
  | a :: r, b :: t, h => by
    rcases List.cons_lt_cons_iff.mp h with h2 | ⟨e, h2⟩
    · exact .inr ⟨[], a, b, r, t, rfl, rfl, h2⟩
    · subst e
      rcases lt_split h2 with ⟨c, hc, rfl⟩ | ⟨p, x, y, s, u, rfl, rfl, hxy⟩
      · exact .inl ⟨c, hc, rfl⟩
      · exact .inr ⟨a :: p, x, y, s, u, rfl, rfl, hxy⟩
theorem lt_app : ∀ (p : Wd) {a b : Wd}, a < b → p ++ a < p ++ b
  | [], _, _, h => h
  | c :: p, _, _, h => List.cons_lt_cons_iff.mpr (.inr ⟨rfl, lt_app p h⟩)
theorem lt_mis (p : Wd) {x y : Nat} (s t : Wd) (h : x < y) : p ++ x :: s < p ++ y :: t := lt_app p (List.cons_lt_cons_iff.mpr (.inl h))
theorem lt_pre (a : Wd) {c : Wd} (h : c ≠ []) : a < a ++ c := by
  have h2 := lt_app a (a := []) (b := c) (by cases c with
    | nil => exact absurd rfl h
    | cons x r => exact List.nil_lt_cons x r)
  rwa [List.append_nil] at h2
theorem lt_irr (a : Wd) : ¬ a < a := List.lt_irrefl a
theorem lt_tr {a b c : Wd} (h : a < b) (k : b < c) : a < c := List.lt_trans h k
theorem lt_tri : ∀ (a b : Wd), a < b ∨ a = b ∨ b < a
  | [], [] => .inr (.inl rfl)
  | [], b :: t => .inl (List.nil_lt_cons b t)
  | a :: r, [] => .inr (.inr (List.nil_lt_cons a r))
  | a :: r, b :: t => by
    rcases Nat.lt_trichotomy a b with h | h | h
    · exact .inl (List.cons_lt_cons_iff.mpr (.inl h))
    · subst h
      rcases lt_tri r t with h | h | h
      · exact .inl (List.cons_lt_cons_iff.mpr (.inr ⟨rfl, h⟩))
      · exact .inr (.inl (by rw [h]))
      · exact .inr (.inr (List.cons_lt_cons_iff.mpr (.inr ⟨rfl, h⟩)))
    · exact .inr (.inr (List.cons_lt_cons_iff.mpr (.inl h)))
theorem nlt_lt {a b c : Wd} (h : ¬ b < a) (k : b < c) : a < c := by
  rcases lt_tri a b with h1 | h1 | h1
  · exact lt_tr h1 k
  · rw [h1]; exact k
  · exact absurd h1 h
theorem nlt_tr {a b c : Wd} (h : ¬ a < b) (k : ¬ b < c) : ¬ a < c := fun e => k (nlt_lt h e)

theorem lyn_join {u v : Wd} (hu : Lyn u) (hv : Lyn v) (h : u < v) : Lyn (u ++ v) := by
  have huv : u ++ v < v := by
    rcases lt_split h with ⟨c, hc, rfl⟩ | ⟨p, x, y, s, t, rfl, rfl, hxy⟩
    · have h1 := hv.2 u.length (by rcases hu with ⟨h0, _⟩; exact List.length_pos_iff.mpr h0) (by rw [List.length_append]; have := List.length_pos_iff.mpr hc; omega)
      rw [List.drop_left] at h1
      exact lt_app u h1
    · rw [List.append_assoc, List.cons_append]
      exact lt_mis p _ _ hxy
  refine ⟨by simp [hu.1], fun i h0 hi => ?_⟩
  rw [List.length_append] at hi
  rcases Nat.lt_trichotomy i u.length with h1 | h1 | h1
  · rw [List.drop_append_of_le_length (by omega)]
    rcases lt_split (hu.2 i h0 h1) with ⟨c, hc, e⟩ | ⟨p, x, y, s, t, e1, e2, hxy⟩
    · have := congrArg List.length e
      rw [List.length_drop, List.length_append] at this
      have := List.length_pos_iff.mpr hc
      omega
    · rw [e2]
      conv => lhs; rw [e1]
      rw [List.append_assoc, List.append_assoc, List.cons_append, List.cons_append]
      exact lt_mis p _ _ hxy
  · subst h1; rw [List.drop_left]; exact huv
  · rw [List.drop_append]
    have e : u.drop i = [] := List.drop_eq_nil_of_le (by omega)
    rw [e, List.nil_append]
    exact lt_tr huv (hv.2 (i - u.length) (by omega) (by omega))

/-! partings -/
def Falls : List Wd → Prop
  | [] => True
  | [_] => True
  | a :: b :: r => ¬ a < b ∧ Falls (b :: r)
theorem Falls.all : ∀ {r : List Wd} {a : Wd}, Falls (a :: r) → ∀ x ∈ r, ¬ a < x
  | [], _, _, x, h => nomatch h
  | b :: r, a, h, x, hx => by
    rcases List.mem_cons.mp hx with rfl | hx
    · exact h.1
    · exact nlt_tr h.1 (Falls.all h.2 x hx)
theorem Falls.tail {a : Wd} : ∀ {r : List Wd}, Falls (a :: r) → Falls r
  | [], _ => trivial
  | _ :: _, h => h.2
theorem end_in : ∀ {vs : List Wd} {r rest : Wd}, r ≠ [] → vs.flatten = r ++ rest → ∃ p x, p ≠ [] ∧ x ∈ vs ∧ (∃ q, r = q ++ p) ∧ ∃ t, x = p ++ t
  | [], r, rest, h, e => by
    have := congrArg List.length e
    have h0 := List.length_pos_iff.mpr h
    rw [List.flatten_nil, List.length_nil, List.length_append] at this
    omega
  | x :: vs, r, rest, h, e => by
    rw [List.flatten_cons] at e
    by_cases hl : r.length ≤ x.length
    · refine ⟨r, x, h, .head _, ⟨[], rfl⟩, x.drop r.length, ?_⟩
      have h1 := congrArg (List.take r.length) e
      rw [List.take_append_of_le_length hl, List.take_left] at h1
      conv => lhs; rw [← List.take_append_drop r.length x, h1]
    · have h1 := congrArg (List.take x.length) e
      rw [List.take_left, List.take_append_of_le_length (by omega)] at h1
      have h2 := congrArg (List.drop x.length) e
      rw [List.drop_left, List.drop_append_of_le_length (by omega)] at h2
      have h3 : r.drop x.length ≠ [] := fun e3 => by
        have := congrArg List.length e3
        rw [List.length_drop] at this
        simp at this; omega
      obtain ⟨p, y, hp, hy, ⟨q, hq⟩, t, ht⟩ := end_in h3 h2
      refine ⟨p, y, hp, .tail _ hy, ⟨r.take x.length ++ q, ?_⟩, t, ht⟩
      rw [List.append_assoc, ← hq, List.take_append_drop]
theorem first_word {v w : Wd} {vs ws : List Wd} (hw : Lyn w) (hv : v ≠ []) (fv : Falls (v :: vs)) (e : v ++ vs.flatten = w ++ ws.flatten) (hl : v.length < w.length) : False := by
  have h1 := congrArg (List.take v.length) e
  rw [List.take_left, List.take_append_of_le_length (by omega)] at h1
  have h2 := congrArg (List.drop v.length) e
  rw [List.drop_left, List.drop_append_of_le_length (by omega)] at h2
  have h3 : w.drop v.length ≠ [] := fun e3 => by
    have := congrArg List.length e3
    rw [List.length_drop] at this
    simp at this; omega
  obtain ⟨p, x, hp, hx, ⟨q, hq⟩, t, ht⟩ := end_in h3 h2
  have hv0 := List.length_pos_iff.mpr hv
  have hp0 := List.length_pos_iff.mpr hp
  have hlen := congrArg List.length hq
  rw [List.length_drop, List.length_append] at hlen
  have ew : w = (v ++ q) ++ p := by
    rw [List.append_assoc, ← hq]
    conv => lhs; rw [← List.take_append_drop v.length w, ← h1]
  have hwp : w < p := by
    have := hw.2 (v ++ q).length (by rw [List.length_append]; omega) (by rw [List.length_append]; omega)
    conv at this => rhs; rw [ew, List.drop_left]
    exact this
  have hvw : v < w := by
    rw [ew, List.append_assoc]
    exact lt_pre v (by simp [hp])
  have hvp := lt_tr hvw hwp
  refine Falls.all fv x hx ?_
  rw [ht]
  cases t with
  | nil => rw [List.append_nil]; exact hvp
  | cons a t => exact lt_tr hvp (lt_pre p (by simp))
theorem unique : ∀ (vs ws : List Wd), (∀ v ∈ vs, Lyn v) → (∀ w ∈ ws, Lyn w) → Falls vs → Falls ws → vs.flatten = ws.flatten → vs = ws
  | [], [], _, _, _, _, _ => rfl
  | [], w :: ws, _, hw, _, _, e => by
    have := congrArg List.length e
    have h0 := List.length_pos_iff.mpr (hw w (.head _)).1
    rw [List.flatten_nil, List.length_nil, List.flatten_cons, List.length_append] at this
    omega
  | v :: vs, [], hv, _, _, _, e => by
    have := congrArg List.length e
    have h0 := List.length_pos_iff.mpr (hv v (.head _)).1
    rw [List.flatten_nil, List.length_nil, List.flatten_cons, List.length_append] at this
    omega
  | v :: vs, w :: ws, hv, hw, fv, fw, e => by
    rw [List.flatten_cons, List.flatten_cons] at e
    rcases Nat.lt_trichotomy v.length w.length with h | h | h
    · exact (first_word (hw w (.head _)) (hv v (.head _)).1 fv e h).elim
    · have h1 := List.append_inj e h
      rw [h1.1, unique vs ws (fun x hx => hv x (.tail _ hx)) (fun x hx => hw x (.tail _ hx)) fv.tail fw.tail h1.2]
    · exact (first_word (hv v (.head _)) (hw w (.head _)).1 fw e.symm h).elim
end Mine
end
section
namespace Mine
theorem sl_drop {l : Wd} {i : Nat} : sl l i l.length = l.drop i := by
  unfold sl
  exact List.take_of_length_le (by rw [List.length_drop]; exact Nat.le_refl _)
/-- the least end of l among the ends at m and from i on -/
theorem least_ok (l : Wd) : ∀ (f i m : Nat), m < i → i + f ≤ l.length → least l l.length f i m < i + f ∧ ∀ j, (j = m ∨ i ≤ j ∧ j < i + f) → ¬ l.drop j < l.drop (least l l.length f i m)
  | 0, i, m, hm, hi => by
    rw [least_stop]
    refine ⟨by omega, fun j hj => ?_⟩
    have : j = m := by omega
    subst this; exact lt_irr _
  | f + 1, i, m, hm, hi => by
    rw [least_step, sl_drop, sl_drop]
    by_cases h : l.drop i < l.drop m
    · rw [if_pos h]
      obtain ⟨h1, h2⟩ := least_ok l f (i + 1) i (by omega) (by omega)
      refine ⟨by omega, fun j hj => ?_⟩
      rcases hj with rfl | hj
      · intro e
        exact h2 i (.inl rfl) (lt_tr h e)
      · exact h2 j (by omega)
    · rw [if_neg h]
      obtain ⟨h1, h2⟩ := least_ok l f (i + 1) m (by omega) (by omega)
      refine ⟨by omega, fun j hj => ?_⟩
      rcases hj with rfl | hj
      · exact h2 j (.inl rfl)
      · by_cases hji : j = i
        · subst hji
          exact fun e => h2 m (.inl rfl) (nlt_lt h e)
        · exact h2 j (by omega)
theorem least_lt {l : Wd} (h : l ≠ []) : least l l.length (l.length - 1) 1 0 < l.length ∧ ∀ j, j < l.length → j ≠ least l l.length (l.length - 1) 1 0 → l.drop (least l l.length (l.length - 1) 1 0) < l.drop j := by
  have hp := List.length_pos_iff.mpr h
  obtain ⟨h1, h2⟩ := least_ok l (l.length - 1) 1 0 (by omega) (by omega)
  refine ⟨by omega, fun j hj hne => ?_⟩
  rcases lt_tri (l.drop (least l l.length (l.length - 1) 1 0)) (l.drop j) with h3 | h3 | h3
  · exact h3
  · have := congrArg List.length h3
    rw [List.length_drop, List.length_drop] at this
    omega
  · exact absurd h3 (h2 j (by omega))
/-- what stands behind l: the first word is less than every end of l with it -/
def Under (l : Wd) : List Wd → Prop
  | [] => True
  | w :: _ => ∀ i, i < l.length → w < l.drop i ++ w
theorem byEnds_ok : ∀ (f : Nat) (l : Wd) (fnd : List Wd), l.length ≤ f → (∀ w ∈ fnd, Lyn w) → Falls fnd → Under l fnd → (byEnds f l fnd).flatten = l ++ fnd.flatten ∧ (∀ w ∈ byEnds f l fnd, Lyn w) ∧ Falls (byEnds f l fnd) := by
  intro f
  induction f with
  | zero =>
    intro l fnd hl h1 h2 _
    have := List.length_eq_zero_iff.mp (Nat.le_zero.mp hl)
    subst this
    exact ⟨rfl, h1, h2⟩
  | succ f ih =>
    intro l fnd hl h1 h2 h3
    by_cases h : l = []
    · rw [byEnds_stop h, h]; exact ⟨rfl, h1, h2⟩
    · rw [byEnds_step h, sl_drop]
      obtain ⟨hm, hmin⟩ := least_lt h
      generalize least l l.length (l.length - 1) 1 0 = m at hm hmin
      have hly : Lyn (l.drop m) := by
        refine ⟨fun e => ?_, fun i h0 hi => ?_⟩
        · have := congrArg List.length e
          rw [List.length_drop, List.length_nil] at this
          omega
        · rw [List.length_drop] at hi
          rw [List.drop_drop]
          exact hmin (m + i) (by omega) (by omega)
      have hfa : Falls (l.drop m :: fnd) := by
        cases fnd with
        | nil => trivial
        | cons w r =>
          refine ⟨fun e => ?_, h2⟩
          have hj := lyn_join hly (h1 w (.head _)) e
          have h5 := hj.2 (l.drop m).length (List.length_pos_iff.mpr hly.1) (by rw [List.length_append]; have := List.length_pos_iff.mpr (h1 w (.head _)).1; omega)
          rw [List.drop_left] at h5
          exact lt_irr _ (lt_tr h5 (h3 m hm))
      have hun : Under (l.take m) (l.drop m :: fnd) := fun i hi => by
        rw [List.length_take] at hi
        have e : (l.take m).drop i ++ l.drop m = l.drop i := by
          conv => rhs; rw [← List.take_append_drop m l]
          rw [List.drop_append_of_le_length (by rw [List.length_take]; omega)]
        rw [e]
        exact hmin i (by omega) (by omega)
      obtain ⟨i1, i2, i3⟩ := ih (l.take m) (l.drop m :: fnd) (by rw [List.length_take]; omega) (fun w hw => by
        rcases List.mem_cons.mp hw with rfl | hw
        · exact hly
        · exact h1 w hw) hfa hun
      refine ⟨?_, i2, i3⟩
      rw [i1, List.flatten_cons, ← List.append_assoc, List.take_append_drop]
theorem ends_ok_plain (l : Wd) : (ends l).flatten = l ∧ (∀ w ∈ ends l, Lyn w) ∧ Falls (ends l) := by
  have := byEnds_ok l.length l [] (Nat.le_refl _) (fun w h => nomatch h) trivial trivial
  rwa [List.flatten_nil, List.append_nil] at this
end Mine
end
section
namespace Mine
theorem check_all {p : Wd → Bool} : ∀ (n : Nat) (w : Wd), check p n w = true → ∀ l : Wd, l.length = n → ABC l → p (l.reverse ++ w) = true
  | 0, w, h, l, hl, _ => by
    have := List.length_eq_zero_iff.mp hl
    subst this; exact h
  | n + 1, w, h, [], hl, _ => by cases hl
  | n + 1, w, h, a :: r, hl, ha => by
    rw [check, Bool.and_eq_true, Bool.and_eq_true] at h
    have hr : r.length = n := by simpa using hl
    have hA : ABC r := fun c hc => ha c (.tail _ hc)
    rw [List.reverse_cons, List.append_assoc]
    rcases ha a (.head _) with rfl | rfl | rfl
    · exact check_all n _ h.1.1 r hr hA
    · exact check_all n _ h.1.2 r hr hA
    · exact check_all n _ h.2 r hr hA
theorem check_abc {p : Wd → Bool} (h : check p 7 [] = true) (l : Wd) (hl : l.length = 7) (ha : ABC l) : p l = true := by
  have := check_all 7 [] h l.reverse (by rw [List.length_reverse]; exact hl) (fun c hc => ha c (List.mem_reverse.mp hc))
  rwa [List.reverse_reverse, List.append_nil] at this
theorem eqB_eq : ∀ {a b : Wd}, eqB a b = true → a = b
  | [], [], _ => rfl
  | [], _ :: _, h => by cases h
  | _ :: _, [], h => by cases h
  | a :: r, b :: t, h => by
    rw [eqB, Bool.and_eq_true] at h
    rw [Nat.eq_of_beq_eq_true h.1, eqB_eq h.2]
theorem eqsB_eq : ∀ {a b : List Wd}, eqsB a b = true → a = b
  | [], [], _ => rfl
  | [], _ :: _, h => by cases h
  | _ :: _, [], h => by cases h
  | a :: r, b :: t, h => by
    rw [eqsB, Bool.and_eq_true] at h
    rw [eqB_eq h.1, eqsB_eq h.2]
theorem lynB_lyn {w : Wd} (h : lynB w = true) : Lyn w := by
  cases w with
  | nil => cases h
  | cons a r =>
    rw [lynB, Bool.and_eq_true] at h
    refine ⟨by simp, fun i h0 hi => ?_⟩
    cases i with
    | zero => omega
    | succ i => exact lessAll_iff.mp h.2 i (by simpa using hi)
theorem fallsB_falls : ∀ {ws : List Wd}, fallsB ws = true → Falls ws
  | [], _ => trivial
  | [_], _ => trivial
  | a :: b :: r, h => by
    rw [fallsB, Bool.and_eq_true, Bool.not_eq_true', ltB_not] at h
    exact ⟨h.1, fallsB_falls h.2⟩
theorem check_step {p : Wd → Bool} {n : Nat} {w : Wd} (h1 : check p n (65 :: w) = true) (h2 : check p n (66 :: w) = true) (h3 : check p n (67 :: w) = true) : check p (n + 1) w = true := by
  rw [check, h1, h2, h3]; rfl
def dvB (t : Wd) : Bool := validB t (duval t)
theorem ck_aa : check dvB 5 [65, 65] = true := by decide +kernel
theorem ck_ab : check dvB 5 [65, 66] = true := by decide +kernel
theorem ck_ac : check dvB 5 [65, 67] = true := by decide +kernel
theorem ck_ba : check dvB 5 [66, 65] = true := by decide +kernel
theorem ck_bb : check dvB 5 [66, 66] = true := by decide +kernel
theorem ck_bc : check dvB 5 [66, 67] = true := by decide +kernel
theorem ck_ca : check dvB 5 [67, 65] = true := by decide +kernel
theorem ck_cb : check dvB 5 [67, 66] = true := by decide +kernel
theorem ck_cc : check dvB 5 [67, 67] = true := by decide +kernel
theorem ck_duval : check dvB 7 [] = true := (check_step (n := 6) (check_step (n := 5) ck_aa ck_ba ck_ca) (check_step (n := 5) ck_ab ck_bb ck_cb) (check_step (n := 5) ck_ac ck_bc ck_cc))
theorem ok_duval (l : Wd) (h : l.length = 7) (ha : ABC l) : (duval l).flatten = l ∧ (∀ w ∈ duval l, Lyn w) ∧ Falls (duval l) := by
  have := check_abc ck_duval l h ha
  simp only [dvB, validB, Bool.and_eq_true, List.all_eq_true] at this
  exact ⟨eqB_eq this.1.1, fun w hw => lynB_lyn (this.1.2 w hw), fallsB_falls this.2⟩
theorem plain_flat (l : Wd) (h : l.length = 7) (ha : ABC l) : (duval l).flatten = l := (ok_duval l h ha).1
theorem plain_ends (l : Wd) (h : l.length = 7) (ha : ABC l) : ends l = duval l := by
  obtain ⟨e1, e2, e3⟩ := ends_ok_plain l
  obtain ⟨o1, o2, o3⟩ := ok_duval l h ha
  exact unique _ _ e2 o2 e3 o3 (e1.trans o1.symm)
theorem falls_of : ∀ {ws : List Wd}, (∀ k, k + 1 < ws.length → ¬ ws.getD k [] < ws.getD (k + 1) []) → Falls ws
  | [], _ => trivial
  | [_], _ => trivial
  | a :: b :: r, h => ⟨h 0 (by simp), falls_of fun k hk => h (k + 1) (by simpa using hk)⟩
theorem plain_unique (l : Wd) (ws : List Wd) (h : l.length = 7) (ha : ABC l) (hf : ws.flatten = l) (hl : ∀ w ∈ ws, Lyn w) (hn : ∀ k, k + 1 < ws.length → ¬ ws.getD k [] < ws.getD (k + 1) []) : ws = duval l :=
  unique ws (duval l) hl (ok_duval l h ha).2.1 (falls_of hn) (ok_duval l h ha).2.2 (hf.trans (plain_flat l h ha).symm)
/-! all the ways: each is a parting, none stands twice, and the parting stands among them -/
def After (last : Wd) : List Wd → Prop
  | [] => True
  | a :: _ => ¬ last < a
theorem Falls.after {a : Wd} : ∀ {r : List Wd}, Falls (a :: r) → After a r
  | [], _ => trivial
  | _ :: _, h => h.1
theorem Falls.mk {a : Wd} : ∀ {r : List Wd}, After a r → Falls r → Falls (a :: r)
  | [], _, _ => trivial
  | _ :: _, h, k => ⟨h, k⟩
theorem wayG_mem {f : Nat} {l last : Wd} {e : Nat} {ws : List Wd} : ws ∈ wayG f l last e ↔ ¬ last < l.take (e + 1) ∧ lessAll (l.take (e + 1)) (l.take (e + 1)).tail = true ∧ ∃ r, r ∈ allWays f (l.drop (e + 1)) (l.take (e + 1)) ∧ l.take (e + 1) :: r = ws := by
  unfold wayG
  cases hc : (!(ltB last (l.take (e + 1)))) && lessAll (l.take (e + 1)) (l.take (e + 1)).tail with
  | false =>
    simp only [cond_false, List.not_mem_nil, false_iff]
    rintro ⟨h1, h2, _⟩
    rw [ltB_not.mpr h1, h2] at hc
    cases hc
  | true =>
    rw [Bool.and_eq_true, Bool.not_eq_true', ltB_not] at hc
    simp only [cond_true, List.mem_map]
    exact ⟨fun ⟨r, h1, h2⟩ => ⟨hc.1, hc.2, r, h1, h2⟩, fun ⟨_, _, r, h1, h2⟩ => ⟨r, h1, h2⟩⟩
theorem ways_sound : ∀ (f : Nat) (l last : Wd) (ws : List Wd), ws ∈ allWays f l last → ws.flatten = l ∧ (∀ w ∈ ws, Lyn w) ∧ Falls ws ∧ After last ws := by
  intro f
  induction f with
  | zero => intro l last ws h; cases h
  | succ f ih =>
    intro l last ws h
    by_cases hl : l = []
    · subst hl
      rw [allWays_nil, List.mem_singleton] at h
      subst h; exact ⟨rfl, (fun w h => nomatch h), trivial, trivial⟩
    · rw [allWays_cons hl, List.mem_flatMap] at h
      obtain ⟨e, he, h⟩ := h
      rw [List.mem_range] at he
      obtain ⟨h1, h2, r, hr, rfl⟩ := wayG_mem.mp h
      obtain ⟨i1, i2, i3, i4⟩ := ih _ _ _ hr
      refine ⟨by rw [List.flatten_cons, i1, List.take_append_drop], fun w hw => ?_, i3.mk i4, h1⟩
      rcases List.mem_cons.mp hw with rfl | hw
      · refine lynB_lyn ?_
        rw [lynB, h2]
        cases l with
        | nil => exact absurd rfl hl
        | cons a t => rfl
      · exact i2 w hw
theorem ways_whole : ∀ (f : Nat) (l last : Wd) (ws : List Wd), l.length < f → ws.flatten = l → (∀ w ∈ ws, Lyn w) → Falls ws → After last ws → ws ∈ allWays f l last := by
  intro f
  induction f with
  | zero => intro l last ws h; omega
  | succ f ih =>
    intro l last ws hf hfl hly hfa haf
    by_cases hl : l = []
    · subst hl
      rw [allWays_nil, List.mem_singleton]
      cases ws with
      | nil => rfl
      | cons a r =>
        rw [List.flatten_cons, List.append_eq_nil_iff] at hfl
        exact absurd hfl.1 (hly a (.head _)).1
    · cases ws with
      | nil => exact absurd hfl.symm hl
      | cons a r =>
        rw [List.flatten_cons] at hfl
        subst hfl
        have ha := hly a (.head _)
        have hp := List.length_pos_iff.mpr ha.1
        rw [allWays_cons hl, List.mem_flatMap]
        have e1 : a.length - 1 + 1 = a.length := by omega
        refine ⟨a.length - 1, by rw [List.mem_range, List.length_append]; omega, wayG_mem.mpr ?_⟩
        rw [e1, List.take_left, List.drop_left]
        refine ⟨haf, lessAll_iff.mpr (fun i hi => ?_), r, ih _ _ _ ?_ rfl (fun w hw => hly w (.tail _ hw)) hfa.tail hfa.after, rfl⟩
        · rw [List.length_tail] at hi
          have := ha.2 (i + 1) (by omega) (by omega)
          rw [List.drop_tail]; exact this
        · rw [List.length_append] at hf; omega
theorem ways_nodup : ∀ (f : Nat) (l last : Wd), (allWays f l last).Nodup := by
  intro f
  induction f with
  | zero => intro l last; exact List.nodup_nil
  | succ f ih =>
    intro l last
    by_cases hl : l = []
    · subst hl; rw [allWays_nil]; simp
    · rw [allWays_cons hl]
      have key : ∀ i, i ≤ l.length → ((List.range i).flatMap (wayG f l last)).Nodup := by
        intro i
        induction i with
        | zero => intro _; simp
        | succ i ih2 =>
          intro hi
          rw [range_flat, List.nodup_append]
          refine ⟨ih2 (by omega), ?_, ?_⟩
          · unfold wayG
            cases (!(ltB last (l.take (i + 1)))) && lessAll (l.take (i + 1)) (l.take (i + 1)).tail with
            | false => exact List.nodup_nil
            | true =>
              rw [cond_true]
              refine List.Pairwise.map _ ?_ (ih (l.drop (i + 1)) (l.take (i + 1)))
              intro a b hab e
              exact hab (List.cons.inj e).2
          · intro a ha b hb e
            subst e
            obtain ⟨j, hj, hm⟩ := List.mem_flatMap.mp ha
            rw [List.mem_range] at hj
            obtain ⟨_, _, r, _, e1⟩ := wayG_mem.mp hm
            obtain ⟨_, _, r2, _, e2⟩ := wayG_mem.mp hb
            have := congrArg List.length (List.cons.inj (e1.trans e2.symm)).1
            rw [List.length_take, List.length_take] at this
            omega
      exact key _ (Nat.le_refl _)
theorem plain_ways (l : Wd) (h : l.length = 7) (ha : ABC l) : allWays 8 l [90] = [duval l] := by
  obtain ⟨o1, o2, o3⟩ := ok_duval l h ha
  have hz : ∀ w : Wd, ABC w → ¬ ([90] : Wd) < w := by
    intro w hw hlt
    cases w with
    | nil => simp at hlt
    | cons a r =>
      have := hw a (.head _)
      rcases List.cons_lt_cons_iff.mp hlt with h1 | ⟨h1, _⟩ <;> omega
  have haf : After [90] (duval l) := by
    cases hd : duval l with
    | nil => trivial
    | cons a r =>
      refine hz a fun c hc => ha c ?_
      rw [← o1, hd, List.flatten_cons]
      exact List.mem_append_left _ hc
  have hin := ways_whole 8 l [90] (duval l) (by omega) o1 o2 o3 haf
  have hall : ∀ ws ∈ allWays 8 l [90], ws = duval l := fun ws hw => by
    obtain ⟨i1, i2, i3, _⟩ := ways_sound _ _ _ _ hw
    exact unique ws (duval l) i2 o2 i3 o3 (i1.trans o1.symm)
  have hnd := ways_nodup 8 l [90]
  generalize allWays 8 l [90] = A at hin hall hnd
  match A, hin, hall, hnd with
  | [], hin, _, _ => cases hin
  | [x], _, hall, _ => rw [hall x (.head _)]
  | x :: y :: r, _, hall, hnd =>
    rw [List.nodup_cons] at hnd
    rw [hall x (.head _), ← hall y (.tail _ (.head _))] at hnd
    exact absurd (.head _) hnd.1
end Mine
end
section
open PySem PySem.W PyProof.Rows PySem.Spec
namespace Mine
theorem strs_take : ∀ {vs : List Value} {ws : List Str}, StrsAre vs ws → ∀ k : Nat, StrsAre (vs.take k) (ws.take k)
  | _, _, .nil, k => by rw [List.take_nil, List.take_nil]; exact .nil
  | _, _, .cons y t h, 0 => .nil
  | _, _, .cons y t h, k + 1 => .cons y t (strs_take h k)
theorem strs_drop : ∀ {vs : List Value} {ws : List Str}, StrsAre vs ws → ∀ k : Nat, StrsAre (vs.drop k) (ws.drop k)
  | _, _, .nil, k => by rw [List.drop_nil, List.drop_nil]; exact .nil
  | _, _, .cons y t h, 0 => .cons y t h
  | _, _, .cons y t h, k + 1 => strs_drop h k
theorem pick_upto {vr : List Value} {k : Nat} (h : k ≤ vr.length) : kms_pick vr none (some (k : Int)) = vr.take k := by
  have e : ¬ ((k : Int) < 0) := by omega
  have e2 : (k : Int).toNat = k := by omega
  simp only [kms_pick, kms_lo, kms_hi, if_neg e, e2, List.drop_zero, Nat.sub_zero, Nat.min_eq_left h]
theorem pick_from {vr : List Value} {k : Nat} (h : k + 2 ≤ vr.length) : kms_pick vr (some ((k : Int) + 2)) none = vr.drop (k + 2) := by
  have e : ¬ ((k : Int) + 2 < 0) := by omega
  have e2 : ((k : Int) + 2).toNat = k + 2 := by omega
  simp only [kms_pick, kms_lo, kms_hi, if_neg e, e2, Nat.min_eq_left h]
  exact List.take_of_length_le (by rw [List.length_drop]; exact Nat.le_refl _)
theorem split2 : ∀ {wr : List Str} {k : Nat}, k + 1 < wr.length → wr = wr.take k ++ wr.getD k ⟨#[]⟩ :: wr.getD (k + 1) ⟨#[]⟩ :: wr.drop (k + 2)
  | [], _, h => by simp at h
  | [_], _, h => by simp at h
  | a :: b :: r, 0, _ => rfl
  | a :: b :: r, k + 1, h => by
    have := split2 (wr := b :: r) (k := k) (by simpa using h)
    show a :: b :: r = a :: (_ ++ _)
    exact congrArg (a :: ·) this
def row' (wr : List Str) (k : Nat) (bo : Str) : List Str := wr.take k ++ [bo] ++ wr.drop (k + 2)
theorem row_len {wr : List Str} {k : Nat} {bo : Str} (h : k + 1 < wr.length) : (row' wr k bo).length + 1 = wr.length := by
  unfold row'
  rw [List.length_append, List.length_append, List.length_take, List.length_drop]
  simp only [List.length_cons, List.length_nil]
  omega
theorem row_flat {wr : List Str} {k : Nat} {bo : Str} {l : Wd} (h : k + 1 < wr.length) (hf : (wr.map tl).flatten = l) (hb : tl bo = tl (wr.getD k ⟨#[]⟩) ++ tl (wr.getD (k + 1) ⟨#[]⟩)) : ((row' wr k bo).map tl).flatten = l := by
  rw [← hf]
  conv => rhs; rw [split2 h]
  unfold row'
  simp only [List.map_append, List.map_cons, List.map_nil, List.flatten_append, List.flatten_cons, List.flatten_nil, hb, List.append_nil, List.append_assoc]
theorem row_lyn {wr : List Str} {k : Nat} {bo : Str} (hl : ∀ w ∈ wr, Lyn (tl w)) (hb : Lyn (tl bo)) : ∀ w ∈ row' wr k bo, Lyn (tl w) := by
  intro w hw
  unfold row' at hw
  simp only [List.mem_append, List.mem_singleton] at hw
  rcases hw with (hw | rfl) | hw
  · exact hl w (List.mem_of_mem_take hw)
  · exact hb
  · exact hl w (List.mem_of_mem_drop hw)
theorem row_strs {vr : List Value} {wr : List Str} {k : Nat} {bo : Str} {t : Tok} (h : StrsAre vr wr) : StrsAre (vr.take k ++ [.str bo t] ++ vr.drop (k + 2)) (row' wr k bo) := by
  unfold row'
  exact ((strs_take h k).append' (.cons _ _ .nil)).append' (strs_drop h (k + 2))
end Mine
end
section
open PySem PySem.W PyProof.Rows
namespace Mine
/-- the law came back with True, and kept what stood -/
def LawDone (s₁ : Shared) (f : Flow) (s' : Shared) : Prop := f = .ret (.bool true) ∧ ∃ h' tk' m', s' = { s₁ with heap := h', toks := tk' } ∧ Fr s₁.heap s₁.heap.objs.size h' m'
def J5 (b l CT CR : Nat) (vs : List Value) (o1 : Obj) (i : Nat) (m : Str → Option Value) (nw : List (Addr × Obj)) : Prop :=
  m (Str.ofString "bag") = some (.ref b) ∧ ∃ (o2 : Obj) (y : Str) (ty t : Tok) (nb : Nat), nw = [(b, listOf #[.ref l, .int (i : Int) t] nb), (l, listOf (List.toArray vs) 0), (CR, o1), (CT, o2)] ∧
    o2.data = .cell (some (.str y ty)) ∧ y.length = i ∧ ABC (tl y)
def J6 (l0 : Wd) (b l CT CR D1 : Nat) (vs vs1 : List Value) (nn1 : Nat) (o2 : Obj) (i : Nat) (m : Str → Option Value) (nw : List (Addr × Obj)) : Prop :=
  m (Str.ofString "bag") = some (.ref b) ∧ m (Str.ofString "words") = some (.ref D1) ∧ ∃ (o1 : Obj) (R : Nat) (vr : List Value) (nr : Nat) (wr : List Str) (t : Tok) (nb : Nat),
    nw = [(R, listOf (List.toArray vr) nr), (D1, listOf (List.toArray vs1) nn1), (b, listOf #[.ref l, .int ((7 : Int) + (i : Int)) t] nb), (l, listOf (List.toArray vs) 0), (CR, o1), (CT, o2)] ∧ o1.data = .cell (some (.ref R)) ∧
    StrsAre vr wr ∧ wr.length + i = 7 ∧ (wr.map tl).flatten = l0 ∧ (∀ w ∈ wr, Lyn (tl w)) ∧ (@Ne Nat R b) ∧ (@Ne Nat R CR)
theorem single_flat (y : Str) (hy : y.length = 7) : (((List.range 7).map fun k => sub y ((k : Nat) : Int) (((k : Nat) : Int) + 1)).map tl).flatten = tl y := by
  have hl := len_tl y
  rw [hy] at hl
  have e : ∀ k, tl (sub y ((k : Nat) : Int) (((k : Nat) : Int) + 1)) = sl (tl y) k (k + 1) := fun k => tl_sub1 y k
  simp only [List.map_map, Function.comp_def, e]
  generalize tl y = l at hl
  match l, hl with
  | [a, b, c, d, e, f, g], _ => rfl
theorem single_lyn (y : Str) (hy : y.length = 7) : ∀ w ∈ (List.range 7).map fun k => sub y ((k : Nat) : Int) (((k : Nat) : Int) + 1), Lyn (tl w) := by
  intro w hw
  obtain ⟨k, hk, rfl⟩ := List.mem_map.mp hw
  have hk' := List.mem_range.mp hk
  have e : tl (sub y ((k : Nat) : Int) (((k : Nat) : Int) + 1)) = sl (tl y) k (k + 1) := tl_sub1 y k
  rw [e]
  have hl := len_tl y
  have : (sl (tl y) k (k + 1)).length = 1 := by unfold sl; rw [List.length_take, List.length_drop]; omega
  obtain ⟨c, hc⟩ := List.length_eq_one_iff.mp this
  rw [hc]
  exact lyn_one c
theorem news_keep_but {h₀ h h' : Heap} {L b : Addr} {nw : List (Addr × Obj)} (N : News h₀ L h nw) (k : ∀ c o, c ≠ b → h.get? c = some o → h'.get? c = some o) (off : ∀ p ∈ nw, p.1 ≠ b) : News h₀ L h' nw := fun p hp => ⟨k _ _ (off p hp) (N p hp).1, (N p hp).2⟩
theorem tl_append (x y : Str) : tl (x ++ y) = tl x ++ tl y := by
  show (x.cps ++ y.cps).toList = _
  rw [Array.toList_append]
theorem lyn_falls {x : Str} (h : Lyn (tl x)) : ∀ i : Int, 1 ≤ i → i < x.length → x.cps.toList < (sub x i x.length).cps.toList := fun i h1 h2 => by
  have e : tl (sub x i x.length) = (tl x).drop i.toNat := by
    obtain ⟨j, rfl⟩ := Int.eq_ofNat_of_zero_le (show 0 ≤ i by omega)
    have q : tl (sub x ((j : Nat) : Int) ((x.length : Nat) : Int)) = sl (tl x) j x.length := tl_sub x j x.length
    rw [q]
    unfold sl
    rw [List.take_of_length_le (by rw [List.length_drop, len_tl]; exact Nat.le_refl _)]
    rfl
  have h3 := h.2 i.toNat (by omega) (by rw [len_tl]; omega)
  rw [← e] at h3
  exact h3
theorem abc_item {r : Int} (h0 : 0 ≤ r) (h3 : r < 3) : ABC (tl (Txt.item (Str.ofString "ABC") r)) := by
  have e0 : tl (Txt.item (Str.ofString "ABC") 0) = [65] := by decide +kernel
  have e1 : tl (Txt.item (Str.ofString "ABC") 1) = [66] := by decide +kernel
  have e2 : tl (Txt.item (Str.ofString "ABC") 2) = [67] := by decide +kernel
  intro c hc
  have : r = 0 ∨ r = 1 ∨ r = 2 := by omega
  rcases this with rfl | rfl | rfl
  · rw [e0] at hc; exact .inl (List.mem_singleton.mp hc)
  · rw [e1] at hc; exact .inr (.inl (List.mem_singleton.mp hc))
  · rw [e2] at hc; exact .inr (.inr (List.mem_singleton.mp hc))
theorem ok_abc {w : Str} (h : ABC (tl w)) : PyData.strOk w = true := by
  unfold PyData.strOk
  rw [← Array.all_toList, List.all_eq_true]
  intro c hc
  have := h c hc
  simp only [decide_eq_true_eq]
  omega
theorem WaysIn.only {nw : List (Addr × Obj)} {vs : List Value} {d : List Wd} {ws : List Str} (h : WaysIn nw vs [d]) (e : ws.map tl = d) : ∃ (a : Addr) (us : List Value) (nu : Nat), vs = [.ref a] ∧ (a, listOf (List.toArray us) nu) ∈ nw ∧ StrsAre us ws := by
  cases h with
  | cons hm hs hr =>
    cases hr
    have := map_tl_inj e
    subst this
    exact ⟨_, _, _, rfl, hm, hs⟩
section
local macro_rules | `(tactic| k_room) => `(tactic| ktr_room)
local macro_rules | `(tactic| k_units) => `(tactic| ktr_units)
local macro_rules | `(tactic| walk_at "call ref") => `(tactic| (k_here; (with_reducible show wpAny _ _ (call (Value.ref 332) [Value.str _ _, Value.str _ _]) _ _ _); k_dflt (refine' Calls.use (less_ok _ _ _ _ _ _ _ _) ?k1 ?k2 ?k3 ?k4 ?k5 ?kK ?kP ?kd ?ku ?_; (case k1 => k_asm); (case k2 => k_asm); (case k3 => k_asm); (case k4 => k_asm); (case k5 => k_asm); (case kK => first | exact rfl | assumption); (case kP => trivial); (case kd => ktr_room); (case ku => ktr_units)); intro r9 h9 tk9 F9 N9 K9 R9; subst R9; (try dsimp only); (try k_fold)))
local macro_rules | `(tactic| walk_at "call ref") => `(tactic| (k_here; (with_reducible show wpAny _ _ (call (Value.ref 339) [Value.str _ _, Value.int _ _, Value.int _ _]) _ _ _); k_dflt (refine' Calls.use (part_ok _ _ _ _ _ _ _ _ _ _ ?h0 ?h1 ?h2 ?hx) ?k1 ?k2 ?k3 ?k4 ?k5 ?kK ?kP ?kd ?ku ?_; (case k1 => k_asm); (case k2 => k_asm); (case k3 => k_asm); (case k4 => k_asm); (case k5 => k_asm); (case kK => first | exact rfl | assumption); (case kP => trivial); (case kd => ktr_room); (case ku => ktr_units); (case h0 => omega); (case h1 => omega); (case h2 => omega); (case hx => omega)); intro r9 h9 tk9 F9 N9 K9 R9; obtain ⟨t9, R9⟩ := R9; subst R9; (try dsimp only); (try k_fold)))
local macro_rules | `(tactic| walk_at "pyIter ref") => `(tactic| refine Halt.mk ?_)
local macro_rules | `(tactic| walk_at "UnrEnd") => `(tactic| refine Halt.mk ?_)
local macro_rules | `(tactic| walk_at "eval ListComp") => `(tactic| refine Halt.mk ?_)
local macro_rules | `(tactic| walk_at "CompSrcT") => `(tactic| refine Halt.mk ?_)
local macro_rules | `(tactic| walk_at "CompSrc") => `(tactic| refine Halt.mk ?_)
local macro_rules | `(tactic| walk_at "TestPost") => `(tactic| refine Halt.mk ?_)
local macro_rules | `(tactic| walk_at "call builtin:list.extend") => `(tactic| refine Halt.mk ?_)
local macro_rules | `(tactic| walk_at "compareOp NotEq ref ref") => `(tactic| refine Halt.mk ?_)
local macro_rules | `(tactic| walk_at "compareOp Eq ref ref") => `(tactic| refine Halt.mk ?_)
local macro_rules | `(tactic| walk_at "subscriptTail Name Name ref int") => `(tactic| refine Halt.mk ?_)
local macro_rules | `(tactic| walk_at "subscriptTail Name BinOp ref int") => `(tactic| refine Halt.mk ?_)
local macro_rules | `(tactic| walk_at "subscriptTail Name Call ref int") => `(tactic| refine Halt.mk ?_)
local macro_rules | `(tactic| walk_at "call ref") => `(tactic| ((with_reducible show wpAny _ _ (call (Value.ref 325) _) _ _ _); refine Halt.mk ?_))
local macro_rules | `(tactic| walk_at "call ref") => `(tactic| ((with_reducible show wpAny _ _ (call (Value.ref 353) _) _ _ _); refine Halt.mk ?_))
local macro_rules | `(tactic| walk_at "call ref") => `(tactic| ((with_reducible show wpAny _ _ (call (Value.ref 360) _) _ _ _); refine Halt.mk ?_))
local macro_rules | `(tactic| walk_at "call ref") => `(tactic| ((with_reducible show wpAny _ _ (call (Value.ref 365) _) _ _ _); refine Halt.mk ?_))
local macro_rules | `(tactic| walk_at "call ref") => `(tactic| ((with_reducible show wpAny _ _ (call (Value.ref 346) _) _ _ _); refine Halt.mk ?_))
local macro_rules | `(tactic| walk_at "call ref") => `(tactic| ((with_reducible show wpAny _ _ (call (Value.ref 318) _) _ _ _); refine Halt.mk ?_))
local macro_rules | `(tactic| walk_at "exec Assign cons ListComp") => `(tactic| ((with_reducible show wpAny _ _ (exec (Stmt.Assign [PySem.Expr.Name (Str.ofString "low") _] _ _) _) _ _ _); refine Halt.mk ?_))
local macro_rules | `(tactic| walk_at "subscriptTail Name Slice ref ref") => `(tactic| ((with_reducible show wpAny _ _ (subscriptTail (PySem.Expr.Name (Str.ofString "row") _) _ _ _) _ _ _); refine Halt.mk ?_))
local macro_rules | `(tactic| walk_at "binaryOp Add ref ref") => `(tactic| refine Halt.mk ?_)
local macro_rules | `(tactic| walk_at "call builtin:len") => `(tactic| ((with_reducible show wpAny _ _ (call (Value.builtin "len") [Value.ref _]) _ _ _); refine Halt.mk ?_))
theorem law_holds : PySem.Challenge.rw_xm0041_01.Holds := Mine.hd (by
  k_go0
  rename World => w
  rename_i s₀ s₁ mg mb y1 y2 fa y3 y4 y5 y6 y7 KX y8 y9 y10 T y11 y12 y13 y14 y15 y16 cdA y17 hCd ns y18 y19 y20 y21 y22 y23 y24 sc vs0 y25 hL0 y26 y27 y28 hI0 y29 hcond y30 K0 hDf h₁ tk₁ F0 oR oT dR dT N0 X0
  refine wpAny_mono (Q := LawDone s₁) ?main (fun f s' hd => ?fin) (fun _ _ e => e)
  case fin =>
    obtain ⟨rfl, h', tk', m', rfl, F'⟩ := hd
    wrow_close
  case main =>
  clear hDf hCd y1 y2 y6 y7 y8 y9 y10 y11 y12 y13 y16 y18 y19 y20 y21 y22 y26 y27 y28 y29 y30
  k_steps
  refine Halt.on ?_
  rename_i l vs hx1 hvs _ _ l1 b hx2 l2 D2 hx3 l3 hx4 hx5 hx6 oT2 FA NA dT2 hx7 tk7 ta tb tc RA FB NB KB
  clear FA NA X0
  have dR' : oR.data = .cell none := by with_unfolding_all exact dR
  clear dR dT
  k_dflt (refine for_range (n := 7) (J5 b l (s₁.heap.objs.size + 1) (s₁.heap.objs.size + 1 + 1) vs oR) (by rfl) RA (by rfl) (by rfl) FB (news := [(b, _), (l, _), (s₁.heap.objs.size + 1 + 1, oR), (s₁.heap.objs.size + 1, oT2)]) (fun p hp => NB p (.tail _ hp)) ⟨by with_unfolding_all rfl, oT2, _, _, _, _, rfl, dT2, rfl, (by intro c hc; cases hc)⟩ ?turn ?done)
  case turn =>
    clear RA FB NB KB
    rintro I i m₁ nw t9 h tk0 hi ⟨m1, o2, y, ty, tt, nb, rfl, d2, hy, habc⟩ F N
    have N2 : News s₁.heap s₁.heap.objs.size h _ := N
    clear N
    obtain ⟨hIb, hIR, hIT⟩ : (@Ne Nat I b) ∧ (@Ne Nat I (s₁.heap.objs.size + 1 + 1)) ∧ (@Ne Nat I (s₁.heap.objs.size + 1)) := by
      refine ⟨Ne.symm (off_by N2 (.head _) (p := (b, _)) (.tail _ (.head _)) (fun e => ?_)), Ne.symm (off_by N2 (.head _) (p := (s₁.heap.objs.size + 1 + 1, oR)) (.tail _ (.tail _ (.tail _ (.head _)))) (fun e => ?_)), Ne.symm (off_by N2 (.head _) (p := (s₁.heap.objs.size + 1, o2)) (.tail _ (.tail _ (.tail _ (.tail _ (.head _))))) (fun e => ?_))⟩
      · exact absurd (Value.type.inj (congrArg Obj.cls e)) (by decide)
      · have := congrArg Obj.data e; rw [dR'] at this; cases this
      · have := congrArg Obj.data e; rw [d2] at this; cases this
    obtain ⟨u2, F2⟩ : ∃ u : Str → Option Value, Fr s₁.heap s₁.heap.objs.size h (fun (z9 : Str) => if z9 = Str.ofString "turn" then some (.int (0 + (i : Int)) t9) else if z9 = Str.ofString "bag" then some (.ref b) else u z9) := ⟨_, (Fr_know (Str.ofString "turn") (.int (0 + (i : Int)) t9) (Fr_know (Str.ofString "bag") (.ref b) F (by first | with_unfolding_all rfl | with_unfolding_all assumption)) (by first | with_unfolding_all rfl | with_unfolding_all assumption))⟩
    clear F
    k_steps
    refine Halt.on ?_
    k_dflt (refine' sign_ok _ _ _ _ b l vs (ns.take 16) nb 0 (i : Int) 3 tt _ hvs ?hl ?a0 ?a1 (by decide) (by decide) ?bl _ _ _ _ _ _ _ _ _ _ _ _ _ _ _ _ _ ?k1 ?k2 ?k3 ?k5 rfl (fun p hp => ?k4) ?kd ?ku ?_; (case k1 => exact K0); (case k2 => exact F2); (case k3 => exact KX); (case k5 => exact T); (case k4 => (refine N2 p ?_; rcases List.mem_cons.mp hp with rfl | hp; exact .tail _ (.head _); (rw [List.mem_singleton.mp hp]; exact .tail _ (.tail _ (.head _))))); (case kd => ktr_room); (case ku => ktr_units); (case hl => (rw [List.length_take]; omega)); (case a0 => omega); (case a1 => omega); (case bl => omega))
    intro r t1 t2 nb' h9 tk9 F9 N9 K9 hr0 hr3
    have N3 : News s₁.heap s₁.heap.objs.size h9 [(I, itR (0 + ((i + 1 : Nat) : Int)) (((7 : Nat) : Int) - ((i + 1 : Nat) : Int))), (b, listOf #[.ref l, .int ((i : Int) + 1) t1] nb'), (l, listOf (List.toArray vs) 0), (s₁.heap.objs.size + 1 + 1, oR), (s₁.heap.objs.size + 1, o2)] := by
      have old := news_keep_but (nw := [(I, itR (0 + ((i + 1 : Nat) : Int)) (((7 : Nat) : Int) - ((i + 1 : Nat) : Int))), (s₁.heap.objs.size + 1 + 1, oR), (s₁.heap.objs.size + 1, o2)]) (fun p hp => N2 p (by simp only [List.mem_cons, List.not_mem_nil, or_false] at hp ⊢; grind)) K9 (fun p hp => by
        simp only [List.mem_cons, List.not_mem_nil, or_false] at hp
        rcases hp with rfl | rfl | rfl
        · exact hIb
        · exact Nat.ne_of_lt l2.2.1
        · exact Nat.ne_of_lt l2.2.2)
      intro p hp
      simp only [List.mem_cons, List.not_mem_nil, or_false] at hp
      rcases hp with rfl | rfl | rfl | rfl | rfl
      · exact old _ (.head _)
      · exact N9 _ (.head _)
      · exact N9 _ (.tail _ (.head _))
      · exact old _ (.tail _ (.head _))
      · exact old _ (.tail _ (.tail _ (.head _)))
    clear N9 K9 N2 F2
    (try dsimp only)
    (try k_fold)
    k_steps
    refine Halt.on ?_
    rename_i kxE t7 k7 hap hx8 o3 F4 N4 d4
    have hlen3 : (y ++ Txt.item (Str.ofString "ABC") r).length = i + 1 := by omega
    have hab3 : ABC (tl (y ++ Txt.item (Str.ofString "ABC") r)) := by
      rw [tl_append]
      intro c hc
      exact (List.mem_append.mp hc).elim (habc c) (abc_item hr0 hr3 c)
    k_dflt (refine unr_end' [(b, listOf #[.ref l, .int ((i : Int) + 1) t1] nb'), (l, listOf (List.toArray vs) 0), (s₁.heap.objs.size + 1 + 1, oR), (s₁.heap.objs.size + 1, o3)] F4 N4 (.head _) (fun p hp => .tail _ hp) (fun p hp => ?_) ⟨by with_unfolding_all rfl, o3, _, _, t1, nb', by with_unfolding_all rfl, d4, hlen3, hab3⟩)
    simp only [List.mem_cons, List.not_mem_nil, or_false] at hp
    rcases hp with rfl | rfl | rfl | rfl
    · exact Ne.symm hIb
    · exact fun e => absurd (congrArg (fun o => o.cls) (Option.some.inj ((N4 _ (.head _)).1.symm.trans (e ▸ (N4 _ (.tail _ (.tail _ (.head _)))).1)))) (by intro q; exact absurd (Value.type.inj q) (by decide))
    · exact Ne.symm hIR
    · exact Ne.symm hIT
  case done =>
    clear RA FB NB KB
    rintro m₁ nw h tk0 ⟨m1, o2, y, ty, tt, nb, rfl, d2, hy, habc⟩ F N
    have N2 : News s₁.heap s₁.heap.objs.size h _ := N
    clear N
    obtain ⟨u2, F2⟩ : ∃ u : Str → Option Value, Fr s₁.heap s₁.heap.objs.size h (fun (z9 : Str) => if z9 = Str.ofString "bag" then some (.ref b) else u z9) := ⟨_, (Fr_know (Str.ofString "bag") (.ref b) F (by first | with_unfolding_all rfl | with_unfolding_all assumption))⟩
    clear F
    k_steps
    refine Halt.on ?_
    k_dflt (refine' Calls.use (along_ok _ _ _ _ y ty ?hx) ?k1 ?k2 ?k3 ?k4 ?k5 ?kK ?kP ?kd ?ku ?_; (case k1 => exact K0); (case k2 => exact F2); (case k3 => exact KX); (case k4 => exact N2); (case k5 => exact T); (case kK => exact rfl); (case kP => trivial); (case kd => ktr_room); (case ku => ktr_units); (case hx => omega))
    intro r9 h9 tk9 F9 N9 K9 R9
    obtain ⟨D1, vs1, nn1, ws1, rfl, hf1, hg1, hs1, he1⟩ := R9
    have N3 := news_new F2 N9 hf1 hg1
    have q1R : @Ne Nat D1 (s₁.heap.objs.size + 1 + 1) := Ne.symm (apart_new N2 hf1 _ (.tail _ (.tail _ (.head _))))
    have q1T : @Ne Nat D1 (s₁.heap.objs.size + 1) := Ne.symm (apart_new N2 hf1 _ (.tail _ (.tail _ (.tail _ (.head _)))))
    have q1b : @Ne Nat D1 b := Ne.symm (apart_new N2 hf1 _ (.head _))
    clear N9 F2 N2 K9 hf1 hg1
    (try dsimp only)
    (try k_fold)
    k_steps
    refine Halt.on ?_
    rename_i hx8 tk8 Dl hx9 FL NL lL
    have habc1 : ∀ w ∈ ws1, ABC (tl w) := fun w hw c hc => habc c (by
      rw [← plain_flat (tl y) (by rw [len_tl]; exact hy) habc, ← he1]
      exact List.mem_flatten.mpr ⟨tl w, List.mem_map.mpr ⟨w, hw, rfl⟩, hc⟩)
    have hok1 : ∀ w ∈ ws1, PyData.strOk w = true := fun w hw => ok_abc (habc1 w hw)
    k_dflt (refine' Calls.use (ways_ok _ _ _ _ 8 y (Str.ofString "Z") ty _ ?hl ?h5) ?k1 ?k2 ?k3 ?k4 ?k5 ?kK ?kP ?kd ?ku ?_; (case k1 => exact K0); (case k2 => exact FL); (case k3 => exact KX); (case k4 => exact NL); (case k5 => exact T); (case kK => exact rfl); (case kP => trivial); (case kd => ktr_room); (case ku => ktr_units); (case hl => omega); (case h5 => decide))
    intro r9 h9 tk9 F9 N9 K9 R9
    obtain ⟨D9, vs9, nn9, inn9, rfl, hh9, _, _, hw9⟩ := R9
    rw [show tl (Str.ofString "Z") = [90] from by decide +kernel, plain_ways (tl y) (by rw [len_tl]; exact hy) habc] at hw9
    obtain ⟨a9, us9, nu9, rfl, hm9, hs9⟩ := hw9.only (ws := ws1) he1
    have N4 : News s₁.heap s₁.heap.objs.size h9 [(Dl, listOf #[.ref D1] 0), (D9, listOf #[.ref a9] nn9), (a9, listOf (List.toArray us9) nu9), (D1, listOf (List.toArray vs1) nn1), (b, listOf #[.ref l, .int (7 : Int) tt] nb), (l, listOf (List.toArray vs) 0), (s₁.heap.objs.size + 1 + 1, oR), (s₁.heap.objs.size + 1, o2)] := fun p hp => by
      refine news_many FL N9 hh9 p ?_
      simp only [List.mem_cons, List.not_mem_nil, or_false, List.mem_append] at hp ⊢
      rcases hp with rfl | rfl | rfl | rfl | rfl | rfl | rfl | rfl
      · exact .inr (.inl rfl)
      · exact .inl (.inl rfl)
      · exact .inl (.inr hm9)
      · exact .inr (.inr (.inl rfl))
      · exact .inr (.inr (.inr (.inl rfl)))
      · exact .inr (.inr (.inr (.inr (.inl rfl))))
      · exact .inr (.inr (.inr (.inr (.inr (.inl rfl)))))
      · exact .inr (.inr (.inr (.inr (.inr (.inr rfl)))))
    clear N9 FL NL K9 hh9
    (try dsimp only)
    (try k_fold)
    k_steps
    refine Halt.on ?_
    k_dflt (refine ne_ways N4 (.head _) (.tail _ (.head _)) (.tail _ (.tail _ (.tail _ (.head _)))) (.tail _ (.tail _ (.head _))) hs1 hs9 hok1 (by ke_room) ?_)
    (try dsimp only)
    (try k_fold)
    k_steps
    refine Halt.on ?_
    k_dflt (refine' Calls.use (ends_ok _ _ _ _ y ty ?hx) ?k1 ?k2 ?k3 ?k4 ?k5 ?kK ?kP ?kd ?ku ?_; (case k1 => exact K0); (case k2 => exact F9); (case k3 => exact KX); (case k4 => exact N4); (case k5 => exact T); (case kK => exact rfl); (case kP => trivial); (case kd => ktr_room); (case ku => ktr_units); (case hx => omega))
    intro r10 h10 tk10 F10 N10 K10 R10
    obtain ⟨D3, vs3, nn3, ws3, rfl, hf3, hg3, hs3, he3⟩ := R10
    have e3 : ws3 = ws1 := map_tl_inj (he3.trans ((plain_ends (tl y) (by rw [len_tl]; exact hy) habc).trans he1.symm))
    subst e3
    have N5 : News s₁.heap s₁.heap.objs.size h10 [(D3, listOf (List.toArray vs3) nn3), (D1, listOf (List.toArray vs1) nn1), (b, listOf #[.ref l, .int (7 : Int) tt] nb), (l, listOf (List.toArray vs) 0), (s₁.heap.objs.size + 1 + 1, oR), (s₁.heap.objs.size + 1, o2)] := fun p hp => by
      refine news_new F9 N10 hf3 hg3 p ?_
      simp only [List.mem_cons, List.not_mem_nil, or_false] at hp ⊢
      grind
    clear N10 F9 N4 K10 hf3 hg3
    (try dsimp only)
    (try k_fold)
    k_steps
    refine Halt.on ?_
    k_dflt (refine ne_words N5 (.head _) (.tail _ (.head _)) hs3 hs1 hok1 (by ke_room) ?_)
    (try dsimp only)
    (try k_fold)
    k_steps
    refine Halt.on ?_
    k_dflt (refine LCg.ListComp_U (F₀ := F10) (by with_unfolding_all rfl) (by decide) (by rfl) (by decide) (by rfl) ?_)
    k_steps
    refine Halt.on ?_
    rename News _ _ _ _ => NX
    k_dflt (refine LCg.CompSrc.range (news := [(D1, listOf (List.toArray vs1) nn1), (b, listOf #[.ref l, .int (7 : Int) tt] nb), (l, listOf (List.toArray vs) 0), (s₁.heap.objs.size + 1 + 1, oR), (s₁.heap.objs.size + 1, o2)]) (n := 7) (by rfl) (by k_asm) (fun p hp => NX p (.tail _ hp)) (by assumption) (by rfl) (by rfl) (by exact Nat.le_of_ble_eq_true rfl) ?_)
    intro g1
    refine rest_made (fun j ys nw => nw = [(D1, listOf (List.toArray vs1) nn1), (b, listOf #[.ref l, .int (7 : Int) tt] nb), (l, listOf (List.toArray vs) 0), (s₁.heap.objs.size + 1 + 1, oR), (s₁.heap.objs.size + 1, o2)] ∧ StrsAre ys ((List.range j).map fun k => sub y ((k : Nat) : Int) (((k : Nat) : Int) + 1))) (fun _ _ _ _ => trivial) ⟨rfl, .nil⟩ ?turnR ?finR
    case turnR =>
      rintro j v ys nw I2 oI C2 oC D4 m₃ h3 tk3 E' hj ⟨t3, rfl⟩ ⟨rfl, hys⟩ hC hx3 F N off ne
      have hj7 : (j : Int) + 1 ≤ (y.length : Int) := by omega
      k_steps
      have e9 : sub y (0 + (j : Int)) (0 + (j : Int) + 1) = sub y ((j : Nat) : Int) (((j : Nat) : Int) + 1) := by rw [Int.zero_add]
      rw [e9]
      k_dflt (refine ElPost.mk _ (by k_asm) (by k_asm) (fun p hp => hp) (LCg.Off3.mem off) ⟨rfl, ?_⟩)
      rw [List.range_succ, List.map_append]
      exact hys.append' (.cons _ _ .nil)
    case finR =>
      rintro ys nw ⟨rfl, hys⟩
      k_steps
      refine Halt.on ?_
      rename_i R hx11 tk11 ho11 hx12 oR2 FA NA dR2 hx13 tk13 td te tf RA FB NB KB
      obtain ⟨g1b, g2b, g3b, g4b, g5b⟩ := ho11
      clear FA NA
      k_dflt (refine for_range (n := 7) (J6 (tl y) b l (s₁.heap.objs.size + 1) (s₁.heap.objs.size + 1 + 1) D1 vs vs1 nn1 o2) (by rfl) RA (by rfl) (by rfl) FB NB ⟨by with_unfolding_all rfl, by with_unfolding_all rfl, oR2, R, ys, _, _, tt, nb, by with_unfolding_all rfl, dR2, hys, (by simp), ?_, ?_, Ne.symm g2b, Ne.symm g4b⟩ ?turn6 ?done6)
      · exact single_flat y hy
      · exact single_lyn y hy
      case turn6 =>
        clear RA FB NB KB
        rintro I i m₁ nw t9 h tk0 hi ⟨m1, m2, oR, R, vr, nr, wr, tt, nb, rfl, dR, hvr, hwl, hfl, hlyn, rb, rR⟩ F N
        have N2 : News s₁.heap s₁.heap.objs.size h _ := N
        clear N
        obtain ⟨hIb, hIR⟩ : (@Ne Nat I b) ∧ (@Ne Nat I (s₁.heap.objs.size + 1 + 1)) := by
          refine ⟨Ne.symm (off_by N2 (.head _) (p := (b, _)) (.tail _ (.tail _ (.tail _ (.head _)))) (fun e => ?_)), Ne.symm (off_by N2 (.head _) (p := (s₁.heap.objs.size + 1 + 1, oR)) (.tail _ (.tail _ (.tail _ (.tail _ (.tail _ (.head _)))))) (fun e => ?_))⟩
          · exact absurd (Value.type.inj (congrArg Obj.cls e)) (by decide)
          · have := congrArg Obj.data e; rw [dR] at this; cases this
        have hvl : vr.length = wr.length := hvr.len_eq
        obtain ⟨u3, F2⟩ : ∃ u : Str → Option Value, Fr s₁.heap s₁.heap.objs.size h (fun (z9 : Str) => if z9 = Str.ofString "turn" then some (.int (0 + (i : Int)) t9) else if z9 = Str.ofString "bag" then some (.ref b) else if z9 = Str.ofString "words" then some (.ref D1) else u z9) := ⟨_, (Fr_know (Str.ofString "turn") (.int (0 + (i : Int)) t9) (Fr_know (Str.ofString "bag") (.ref b) (Fr_know (Str.ofString "words") (.ref D1) F (by first | with_unfolding_all rfl | with_unfolding_all assumption)) (by first | with_unfolding_all rfl | with_unfolding_all assumption)) (by first | with_unfolding_all rfl | with_unfolding_all assumption))⟩
        clear F
        k_steps
        refine Halt.on ?_
        k_dflt (refine LCt.Assign_ListComp_T (F₀ := F2) (by rfl) (by with_unfolding_all rfl) (by with_unfolding_all rfl) (by decide) (by rfl) (by decide) (by rfl) (by rfl) (by rfl) ?_)
        k_steps
        refine Halt.on ?_
        k_dflt (refine len_words N2 (.tail _ (.head _)) (by omega) (fun tq tkq => ?_))
        (try dsimp only)
        (try k_fold)
        k_steps
        refine Halt.on ?_
        rename Fr _ _ _ _ => FX
        rename News _ _ _ _ => NX
        k_dflt (refine LCt.CompSrcT.range (n := wr.length - 1) (by rfl) FX NX (by assumption) (range_small (by omega) (by omega) (by omega) (by omega)) (range_n (by omega)) (by show wr.length - 1 ≤ sizeLine; rw [sizeLine_eq]; omega) ?_)
        intro g2
        refine rest_filter (fun k => decide (tl (wr.getD k ⟨#[]⟩) < tl (wr.getD (k + 1) ⟨#[]⟩))) trivial ?turn7 ?fin7
        case turn7 =>
          clear FX NX
          intro k t3 ys I2 oI C2 oC D4 m₃ h3 tk3 E' hk3 hC hx3 F N off ne
          k_steps
          refine Halt.on ?_
          rename News _ _ _ _ => NX
          k_dflt (refine item_word (vr := vr) (nr := nr) NX (.tail _ (.tail _ (.tail _ (.tail _ (.head _))))) (by assumption) (by omega) (by omega) (by omega) (fun tq => ?_))
          (try dsimp only)
          (try k_fold)
          k_steps
          refine Halt.on ?_
          k_dflt (refine item_word (vr := vr) (nr := nr) NX (.tail _ (.tail _ (.tail _ (.tail _ (.head _))))) (by assumption) (by omega) (by omega) (by omega) (fun tq => ?_))
          (try dsimp only)
          (try k_fold)
          have z1 : (0 + (k : Int)).toNat = k := by omega
          have z2 : (0 + (k : Int) + 1).toNat = k + 1 := by omega
          k_steps
          refine Halt.on ⟨fun hok => ⟨?_, ?_⟩, fun hok => ⟨?_, ?_⟩⟩
          · rw [z1, z2] at hok; exact hok
          · k_steps
            exact ⟨rfl, FrNews.mk (by k_asm) (by k_asm) fun p hp => hp⟩
          · rw [z1, z2] at hok; exact hok
          · exact FrNews.mk (by k_asm) (by k_asm) fun p hp => hp
        case fin7 =>
          clear FX NX
          intro ys hys
          k_steps
          refine Halt.on ?_
          rename_i Dq hq1 tkq oq lq hq2 FQ NQ lq1
          k_dflt (refine ke_eq_ints (xs := ys) (ys := []) (ms := []) (NQ.isList (.tail _ (.head _))) (NQ.isList (.head _)) hys .nil (by ke_room) ?_)
          (try dsimp only)
          (try k_fold)
          k_steps
          · refine Halt.on ?_
            rename_i hkept
            have hk0 := kept_nil.mp (of_decide_eq_true hkept)
            have hw : wr.map tl = duval (tl y) := plain_unique (tl y) (wr.map tl) (by rw [len_tl]; exact hy) habc hfl (fun w hw => by
              obtain ⟨u, hu, rfl⟩ := List.mem_map.mp hw
              exact hlyn u hu) (fun k hk => by
              rw [List.length_map] at hk
              have := hk0 k (by omega)
              rw [getD_tl, getD_tl]
              exact of_decide_eq_false this)
            have e5 := map_tl_inj (hw.trans he1.symm)
            have hvr' : StrsAre vr wr := by assumption
            rw [e5] at hvr'
            k_dflt (refine eq_words NQ (.tail _ (.tail _ (.tail _ (.head _)))) (.tail _ (.tail _ (.tail _ (.tail _ (.head _))))) hvr' hs1 hok1 (by ke_room) ?_)
            (try dsimp only)
            (try k_fold)
            k_steps
            exact ⟨rfl, _, _, _, rfl, FQ⟩
          · refine Halt.on ?_
            rename_i hkept
            have hk0 := of_decide_eq_false hkept
            have hkl := kept_len 0 (fun k => decide (tl (wr.getD k ⟨#[]⟩) < tl (wr.getD (k + 1) ⟨#[]⟩))) (wr.length - 1)
            have hkp : 0 < (kept 0 (fun k => decide (tl (wr.getD k ⟨#[]⟩) < tl (wr.getD (k + 1) ⟨#[]⟩))) (wr.length - 1)).length := List.length_pos_iff.mpr hk0
            have hyl := hys.length
            k_dflt (refine len_words (vr := ys) (nr := ys.length) NQ (.tail _ (.head _)) (by omega) (fun tq tkq => ?_))
            (try dsimp only)
            (try k_fold)
            k_steps
            refine Halt.on ?_
            k_dflt (refine' sign_ok _ _ _ _ b l vs (ns.take 16) nb 0 ((7 : Int) + (i : Int)) (ys.length : Int) tt _ hvs ?hl ?a0 ?a1 ?a2 ?a3 ?bl _ _ _ _ _ _ _ _ _ _ _ _ _ _ _ _ _ ?k1 ?k2 ?k3 ?k5 rfl (fun p hp => ?k4) ?kd ?ku ?_; (case k1 => exact K0); (case k2 => exact FQ); (case k3 => exact KX); (case k5 => exact T); (case k4 => (refine NQ p ?_; rcases List.mem_cons.mp hp with rfl | hp; exact .tail _ (.tail _ (.tail _ (.tail _ (.tail _ (.head _))))); (rw [List.mem_singleton.mp hp]; exact .tail _ (.tail _ (.tail _ (.tail _ (.tail _ (.tail _ (.head _))))))))); (case kd => ktr_room); (case ku => ktr_units); (case hl => (rw [List.length_take]; omega)); (case a0 => omega); (case a1 => omega); (case a2 => omega); (case a3 => omega); (case bl => omega))
            intro r t1 t2 nb' h9 tk9 F9 N9 K9 hr0 hr3
            have N3 : News s₁.heap s₁.heap.objs.size h9 [(Dq, LCg.lst ys), (I, itR (0 + ((i + 1 : Nat) : Int)) (((7 : Nat) : Int) - ((i + 1 : Nat) : Int))), (R, listOf (List.toArray vr) nr), (D1, listOf (List.toArray vs1) nn1), (b, listOf #[.ref l, .int ((7 : Int) + (i : Int) + 1) t1] nb'), (l, listOf (List.toArray vs) 0), (s₁.heap.objs.size + 1 + 1, oR), (s₁.heap.objs.size + 1, o2)] := by
              have old := news_keep_but (nw := [(Dq, LCg.lst ys), (I, itR (0 + ((i + 1 : Nat) : Int)) (((7 : Nat) : Int) - ((i + 1 : Nat) : Int))), (R, listOf (List.toArray vr) nr), (D1, listOf (List.toArray vs1) nn1), (s₁.heap.objs.size + 1 + 1, oR), (s₁.heap.objs.size + 1, o2)]) (fun p hp => NQ p (by simp only [List.mem_cons, List.not_mem_nil, or_false] at hp ⊢; grind)) K9 (fun p hp => by
                simp only [List.mem_cons, List.not_mem_nil, or_false] at hp
                rcases hp with rfl | rfl | rfl | rfl | rfl | rfl
                · exact Ne.symm oq.2.2.2.1
                · exact hIb
                · exact rb
                · exact q1b
                · exact Nat.ne_of_lt l2.2.1
                · exact Nat.ne_of_lt l2.2.2)
              intro p hp
              simp only [List.mem_cons, List.not_mem_nil, or_false] at hp
              rcases hp with rfl | rfl | rfl | rfl | rfl | rfl | rfl | rfl
              · exact old _ (.head _)
              · exact old _ (.tail _ (.head _))
              · exact old _ (.tail _ (.tail _ (.head _)))
              · exact old _ (.tail _ (.tail _ (.tail _ (.head _))))
              · exact N9 _ (.head _)
              · exact N9 _ (.tail _ (.head _))
              · exact old _ (.tail _ (.tail _ (.tail _ (.tail _ (.head _)))))
              · exact old _ (.tail _ (.tail _ (.tail _ (.tail _ (.tail _ (.head _))))))
            clear N9 K9 NQ FQ
            obtain ⟨k, hk, hpk, hKe⟩ := kept_at (a := 0) (p := fun k => decide (tl (wr.getD k ⟨#[]⟩) < tl (wr.getD (k + 1) ⟨#[]⟩))) (n := wr.length - 1) (j := r.toNat) (by omega)
            have hpk' : tl (wr.getD k ⟨#[]⟩) < tl (wr.getD (k + 1) ⟨#[]⟩) := of_decide_eq_true hpk
            obtain ⟨tq9, htq9⟩ := hys.get r.toNat _ hKe
            (try dsimp only)
            (try k_fold)
            k_steps
            refine Halt.on ?_
            k_dflt (refine item_list (N3.isList (.head _)) hr0 (by omega) (by simpa using htq9) ?_)
            (try dsimp only)
            (try k_fold)
            k_steps
            refine Halt.on ?_
            clear N3 htq9
            have z1 : ((k : Int)).toNat = k := by omega
            have z2 : ((k : Int) + 1).toNat = k + 1 := by omega
            have L1 := word_len hfl (k := k) (by omega)
            have L2 := word_len hfl (k := k + 1) (by omega)
            rw [len_tl, hy] at L1 L2
            rename News _ _ _ _ => NX
            rename Fr _ _ _ _ => FX
            k_dflt (refine item_word (vr := vr) (nr := nr) NX (.tail _ (.tail _ (.head _))) (by assumption) (by omega) (by omega) (by omega) (fun ta => ?_))
            (try dsimp only)
            (try k_fold)
            k_steps
            refine Halt.on ?_
            k_dflt (refine item_word (vr := vr) (nr := nr) NX (.tail _ (.tail _ (.head _))) (by assumption) (by omega) (by omega) (by omega) (fun tb => ?_))
            (try dsimp only)
            (try k_fold)
            k_steps
            refine Halt.on ?_
            k_dflt (refine' Calls.use (join_ok _ _ _ _ _ _ _ _ ?hx) ?k1 ?k2 ?k3 ?k4 ?k5 ?kK ?kP ?kd ?ku ?_; (case k1 => exact K0); (case k2 => exact FX); (case k3 => exact KX); (case k4 => exact NX); (case k5 => exact T); (case kK => exact rfl); (case kP => trivial); (case kd => ktr_room); (case ku => ktr_units); (case hx => (rw [z1, z2]; omega)))
            intro r9 h9 tk9 F9 N9 K9 R9
            obtain ⟨tj, rfl⟩ := R9
            clear K9 FX NX
            (try dsimp only)
            (try k_fold)
            k_steps
            refine Halt.on ?_
            have hly : Lyn (tl (wr.getD (k : Int).toNat ⟨#[]⟩ ++ wr.getD ((k : Int) + 1).toNat ⟨#[]⟩)) := by
              rw [tl_append, z1, z2]
              exact lyn_join (hlyn _ (word_mem (by omega))) (hlyn _ (word_mem (by omega))) hpk'
            have hjl : (wr.getD (k : Int).toNat ⟨#[]⟩ ++ wr.getD ((k : Int) + 1).toNat ⟨#[]⟩ : Str).length ≤ 14 := by
              rw [← len_tl, tl_append, List.length_append, len_tl, len_tl, z1, z2]; omega
            generalize hbo : wr.getD (k : Int).toNat ⟨#[]⟩ ++ wr.getD ((k : Int) + 1).toNat ⟨#[]⟩ = bo at hly hjl
            rename News _ _ _ _ => NX
            rename Fr _ _ _ _ => FX
            k_dflt (refine' Calls.use (falls_ok _ _ _ _ _ _ ?hx ?hL) ?k1 ?k2 ?k3 ?k4 ?k5 ?kK ?kP ?kd ?ku ?_; (case k1 => exact K0); (case k2 => exact FX); (case k3 => exact KX); (case k4 => exact NX); (case k5 => exact T); (case kK => exact rfl); (case kP => trivial); (case kd => ktr_room); (case ku => ktr_units); (case hx => omega); (case hL => exact lyn_falls hly))
            intro r9 h9 tk9 F9 N9 K9 R9
            subst R9
            clear K9 FX NX
            subst hbo
            (try dsimp only)
            (try k_fold)
            k_steps
            refine Halt.on ?_
            k_dflt (refine' kms_slice_lit (its := List.toArray vr) (zs := vr.take k) F9 N9 ?v1l ?v1p ?v1q ?v1e ?_ ?v1s ?v1t ?v1z; (case v1l => exact N9.isList (.tail _ (.tail _ (.head _)))); (case v1p => kmk_part); (case v1q => kmk_part); (case v1e => exact pick_upto (vr := vr) (k := k) (by omega)); (case v1s => with_unfolding_all rfl); (case v1t => kmk_pure); (case v1z => (show vr.length ≤ sizeLine; rw [sizeLine_eq]; omega)))
            intro Da ha Fa Na la
            clear F9 N9
            (try dsimp only)
            (try k_fold)
            k_steps
            refine Halt.on ?_
            rename News _ _ _ _ => Nb
            rename Fr _ _ _ _ => Fb
            k_dflt (refine kmk_add_lit (zs := vr.take k ++ [Value.str (wr.getD (k : Int).toNat ⟨#[]⟩ ++ wr.getD ((k : Int) + 1).toNat ⟨#[]⟩) tj]) Fb Nb (Nb.isList (.tail _ (.head _))) (Nb.isList (.head _)) rfl ?_ (by show (vr.take k).length + 1 ≤ sizeLine; rw [List.length_take, sizeLine_eq]; omega))
            intro Dc hc Fc Nc lc
            clear Fb Nb
            (try dsimp only)
            (try k_fold)
            k_steps
            refine Halt.on ?_
            k_dflt (refine' kms_slice_lit (its := List.toArray vr) (zs := vr.drop (k + 2)) Fc Nc ?v2l ?v2p ?v2q ?v2e ?_ ?v2s ?v2t ?v2z; (case v2l => exact Nc.isList (.tail _ (.tail _ (.tail _ (.tail _ (.tail _ (.head _))))))); (case v2p => kmk_part); (case v2q => kmk_part); (case v2e => exact pick_from (vr := vr) (k := k) (by omega)); (case v2s => with_unfolding_all rfl); (case v2t => kmk_pure); (case v2z => (show vr.length ≤ sizeLine; rw [sizeLine_eq]; omega)))
            intro Dd hd Fd Nd ld
            clear Fc Nc
            (try dsimp only)
            (try k_fold)
            k_steps
            refine Halt.on ?_
            k_dflt (refine kmk_add_lit (zs := vr.take k ++ [Value.str (wr.getD (k : Int).toNat ⟨#[]⟩ ++ wr.getD ((k : Int) + 1).toNat ⟨#[]⟩) tj] ++ vr.drop (k + 2)) Fd Nd (Nd.isList (.tail _ (.head _))) (Nd.isList (.head _)) rfl ?_ (by show (vr.take k ++ [Value.str (wr.getD (k : Int).toNat ⟨#[]⟩ ++ wr.getD ((k : Int) + 1).toNat ⟨#[]⟩) tj]).length + (vr.drop (k + 2)).length ≤ sizeLine; rw [List.length_append, List.length_take, List.length_drop, sizeLine_eq]; simp only [List.length_cons, List.length_nil]; omega))
            intro De he Fe NE le
            have qER : @Ne Nat De (s₁.heap.objs.size + 1 + 1) := Nat.ne_of_gt (le _ (.tail _ (.tail _ (.tail _ (.tail _ (.tail _ (.tail _ (.tail _ (.tail _ (.tail _ (.tail _ (.head _))))))))))))
            have qEb : @Ne Nat De b := Nat.ne_of_gt (le _ (.tail _ (.tail _ (.tail _ (.tail _ (.tail _ (.tail _ (.tail _ (.tail _ (.head _))))))))))
            have qEI : @Ne Nat De I := Nat.ne_of_gt (le _ (.tail _ (.tail _ (.tail _ (.tail _ (.tail _ (.head _)))))))
            have Ns : News s₁.heap s₁.heap.objs.size he [(De, listOf (List.toArray (vr.take k ++ [Value.str (wr.getD (k : Int).toNat ⟨#[]⟩ ++ wr.getD ((k : Int) + 1).toNat ⟨#[]⟩) tj] ++ vr.drop (k + 2))) 0), (I, itR (0 + ((i + 1 : Nat) : Int)) (((7 : Nat) : Int) - ((i + 1 : Nat) : Int))), (D1, listOf (List.toArray vs1) nn1), (b, listOf #[.ref l, .int ((7 : Int) + (i : Int) + 1) t1] nb'), (l, listOf (List.toArray vs) 0), (s₁.heap.objs.size + 1 + 1, oR), (s₁.heap.objs.size + 1, o2)] := fun p hp => by
              refine NE p ?_
              simp only [List.mem_cons, List.not_mem_nil, or_false] at hp ⊢
              grind
            clear Fd Nd NE le
            (try dsimp only)
            (try k_fold)
            k_steps
            refine Halt.on ?_
            rename_i hz1 oz Fz Nz dz
            have eb : tl (wr.getD (k : Int).toNat ⟨#[]⟩ ++ wr.getD ((k : Int) + 1).toNat ⟨#[]⟩) = tl (wr.getD k ⟨#[]⟩) ++ tl (wr.getD (k + 1) ⟨#[]⟩) := by rw [tl_append, z1, z2]
            have k1 : k + 1 < wr.length := by omega
            have rl := row_len (bo := wr.getD (k : Int).toNat ⟨#[]⟩ ++ wr.getD ((k : Int) + 1).toNat ⟨#[]⟩) k1
            have hvr' : StrsAre vr wr := by assumption
            k_dflt (refine unr_end' [(De, listOf (List.toArray (vr.take k ++ [Value.str (wr.getD (k : Int).toNat ⟨#[]⟩ ++ wr.getD ((k : Int) + 1).toNat ⟨#[]⟩) tj] ++ vr.drop (k + 2))) 0), (D1, listOf (List.toArray vs1) nn1), (b, listOf #[.ref l, .int ((7 : Int) + (i : Int) + 1) t1] nb'), (l, listOf (List.toArray vs) 0), (s₁.heap.objs.size + 1 + 1, oz), (s₁.heap.objs.size + 1, o2)] Fz Nz (.tail _ (.head _)) (fun p hp => ?_) (fun p hp => ?_) ⟨by with_unfolding_all rfl, by with_unfolding_all rfl, oz, De, _, _, row' wr k (wr.getD (k : Int).toNat ⟨#[]⟩ ++ wr.getD ((k : Int) + 1).toNat ⟨#[]⟩), t1, nb', by with_unfolding_all rfl, dz, row_strs hvr', by omega, row_flat k1 hfl eb, row_lyn hlyn hly, qEb, qER⟩)
            · simp only [List.mem_cons, List.not_mem_nil, or_false] at hp ⊢
              grind
            · simp only [List.mem_cons, List.not_mem_nil, or_false] at hp
              rcases hp with rfl | rfl | rfl | rfl | rfl | rfl
              · exact qEI
              · exact off_by Nz (.tail _ (.head _)) (p := (D1, _)) (.tail _ (.tail _ (.head _))) (fun e => absurd (Value.type.inj (congrArg Obj.cls e)) (by decide))
              · exact Ne.symm hIb
              · exact off_by Nz (.tail _ (.head _)) (p := (l, _)) (.tail _ (.tail _ (.tail _ (.tail _ (.head _))))) (fun e => absurd (Value.type.inj (congrArg Obj.cls e)) (by decide))
              · exact Ne.symm hIR
              · exact off_by Nz (.tail _ (.head _)) (p := (s₁.heap.objs.size + 1, o2)) (.tail _ (.tail _ (.tail _ (.tail _ (.tail _ (.tail _ (.head _))))))) (fun e => by
                  have := congrArg Obj.data e; rw [d2] at this; cases this)
      case done6 =>
        rintro m₁ nw h tk0 ⟨m1, m2, oR, R, vr, nr, wr, tt, nb, rfl, dR, hvr, hwl, hfl, hlyn, rb, rR⟩ F N
        exfalso
        have : wr = [] := List.length_eq_zero_iff.mp (by omega)
        rw [this] at hfl
        have e0 := congrArg List.length hfl
        rw [len_tl] at e0
        simp at e0
        omega)
end
end Mine
end
theorem PySem.Challenge.cw_xm0041_01_holds : PySem.Challenge.rw_xm0041_01.Holds := by
  exact Mine.law_holds
