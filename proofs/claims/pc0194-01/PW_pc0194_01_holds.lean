import PyProof.Rows.All
import Wide.All
import OpenK.AllK
import Wide.FinOn
import PySem.Challenge.RW_pc0194_01
open PySem PySem.W PyProof.Rows PySem.Spec PySem.Calls
set_option Elab.async false
set_option maxRecDepth 100000
set_option maxHeartbeats 8000000
set_option linter.unusedVariables false
namespace Mine
section
noncomputable abbrev pg : Program := PySem.Challenge.pw_pc0194_01
noncomputable def topS (i : Nat) : Stmt := pg.main.body.getD i (.Pass ⟨0, 0, 0, 0⟩)
noncomputable def clsS (i j : Nat) : Stmt := match topS i with
  | .ClassDef _ _ _ b _ _ _ _ _ _ _ => b.getD j (.Pass ⟨0, 0, 0, 0⟩)
  | _ => .Pass ⟨0, 0, 0, 0⟩
noncomputable def argsOf : Stmt → Arguments
  | .FunctionDef _ a _ _ _ _ _ _ _ _ => a
  | _ => default
noncomputable def bodyOf : Stmt → List Stmt
  | .FunctionDef _ _ b _ _ _ _ _ _ _ => b
  | _ => []
noncomputable def scopeOf : Stmt → Scope
  | .FunctionDef _ _ _ _ _ _ s _ _ _ => s
  | _ => default
structure Same {α : Type} (a b : α) : Prop where
  out : a = b
/-- the part of the heap behind the top that the walk reads -/
noncomputable def KF : Params → Frag := by
  intro P
  refine (?g : Nat → Nat → Nat → Nat → Nat → Nat → Nat → Nat → Nat → Nat → Nat → Nat → Nat → Nat → Nat → Nat → Nat → Nat → Nat → Nat → Nat → Nat → Nat → Nat → Nat → Nat → Nat → Nat → Nat → Nat → Nat → Nat → Nat → Nat → Nat → Nat → Nat → Nat → Nat → Nat → Nat → Nat → Nat → Nat → Nat → Nat → Nat → Nat → Nat → Nat → Nat → Nat → Nat → Nat → Nat → Nat → Nat → Nat → Nat → Nat → Nat → Nat → Nat → Nat → Nat → Nat → Nat → Nat → Nat → Nat → Nat → Nat → Nat → Nat → Nat → Nat → Nat → Nat → Nat → Nat → Nat → Nat → Nat → Nat → Nat → Nat → Nat → Nat → Nat → Nat → Nat → Nat → Nat → Nat → Nat → Nat → Nat → Nat → Nat → Nat → Nat → Nat → Nat → Nat → Nat → Nat → Nat → Nat → Nat → Nat → Nat → Nat → Nat → Nat → Nat → Nat → Nat → Nat → Nat → Nat → Nat → Nat → Nat → Nat → Nat → Nat → Nat → Nat → Nat → Nat → Nat → Nat → Nat → Nat → Nat → Nat → Nat → Nat → Nat → Nat → Nat → Nat → Nat → Nat → Nat → Nat → Nat → Nat → Nat → Nat → Nat → Nat → Nat → Nat → Nat → Nat → Nat → Nat → Nat → Nat → Nat → Nat → Nat → Nat → Nat → Nat → Nat → Nat → Nat → Nat → Nat → Nat → Nat → Nat → Nat → Nat → Nat → Nat → Nat → Nat → Nat → Nat → Nat → Nat → Nat → Nat → Nat → Nat → Nat → Nat → Nat → Nat → Nat → Nat → Nat → Nat → Nat → Nat → Nat → Nat → Nat → Nat → Nat → Frag) (nat_lit 2) (nat_lit 3) (nat_lit 15) (nat_lit 22) (nat_lit 23) (nat_lit 25) (nat_lit 26) (nat_lit 28) (nat_lit 29) (nat_lit 30) (nat_lit 31) (nat_lit 32) (nat_lit 33) (nat_lit 36) (nat_lit 43) (nat_lit 45) (nat_lit 46) (nat_lit 48) (nat_lit 49) (nat_lit 50) (nat_lit 51) (nat_lit 52) (nat_lit 55) (nat_lit 57) (nat_lit 58) (nat_lit 60) (nat_lit 61) (nat_lit 62) (nat_lit 64) (nat_lit 65) (nat_lit 67) (nat_lit 68) (nat_lit 69) (nat_lit 71) (nat_lit 72) (nat_lit 74) (nat_lit 75) (nat_lit 76) (nat_lit 78) (nat_lit 79) (nat_lit 81) (nat_lit 82) (nat_lit 83) (nat_lit 85) (nat_lit 86) (nat_lit 88) (nat_lit 89) (nat_lit 90) (nat_lit 91) (nat_lit 93) (nat_lit 94) (nat_lit 96) (nat_lit 97) (nat_lit 98) (nat_lit 100) (nat_lit 101) (nat_lit 103) (nat_lit 104) (nat_lit 105) (nat_lit 107) (nat_lit 108) (nat_lit 110) (nat_lit 111) (nat_lit 112) (nat_lit 114) (nat_lit 115) (nat_lit 117) (nat_lit 118) (nat_lit 119) (nat_lit 121) (nat_lit 122) (nat_lit 124) (nat_lit 125) (nat_lit 126) (nat_lit 128) (nat_lit 129) (nat_lit 131) (nat_lit 132) (nat_lit 133) (nat_lit 135) (nat_lit 136) (nat_lit 138) (nat_lit 139) (nat_lit 140) (nat_lit 142) (nat_lit 143) (nat_lit 145) (nat_lit 146) (nat_lit 147) (nat_lit 149) (nat_lit 150) (nat_lit 152) (nat_lit 153) (nat_lit 154) (nat_lit 156) (nat_lit 157) (nat_lit 159) (nat_lit 160) (nat_lit 161) (nat_lit 163) (nat_lit 164) (nat_lit 166) (nat_lit 167) (nat_lit 168) (nat_lit 170) (nat_lit 171) (nat_lit 173) (nat_lit 174) (nat_lit 175) (nat_lit 177) (nat_lit 178) (nat_lit 180) (nat_lit 181) (nat_lit 182) (nat_lit 184) (nat_lit 185) (nat_lit 187) (nat_lit 188) (nat_lit 189) (nat_lit 191) (nat_lit 192) (nat_lit 194) (nat_lit 195) (nat_lit 196) (nat_lit 198) (nat_lit 199) (nat_lit 201) (nat_lit 202) (nat_lit 203) (nat_lit 205) (nat_lit 206) (nat_lit 208) (nat_lit 209) (nat_lit 210) (nat_lit 212) (nat_lit 213) (nat_lit 215) (nat_lit 216) (nat_lit 217) (nat_lit 219) (nat_lit 220) (nat_lit 222) (nat_lit 223) (nat_lit 224) (nat_lit 226) (nat_lit 227) (nat_lit 229) (nat_lit 230) (nat_lit 231) (nat_lit 233) (nat_lit 234) (nat_lit 236) (nat_lit 237) (nat_lit 238) (nat_lit 240) (nat_lit 241) (nat_lit 243) (nat_lit 244) (nat_lit 245) (nat_lit 246) (nat_lit 248) (nat_lit 249) (nat_lit 251) (nat_lit 252) (nat_lit 253) (nat_lit 255) (nat_lit 256) (nat_lit 258) (nat_lit 259) (nat_lit 260) (nat_lit 263) (nat_lit 264) (nat_lit 265) (nat_lit 267) (nat_lit 268) (nat_lit 270) (nat_lit 271) (nat_lit 272) (nat_lit 274) (nat_lit 275) (nat_lit 277) (nat_lit 278) (nat_lit 279) (nat_lit 281) (nat_lit 282) (nat_lit 284) (nat_lit 285) (nat_lit 286) (nat_lit 288) (nat_lit 289) (nat_lit 291) (nat_lit 292) (nat_lit 293) (nat_lit 296) (nat_lit 297) (nat_lit 298) (nat_lit 300) (nat_lit 301) (nat_lit 303) (nat_lit 304) (nat_lit 305) (nat_lit 308) (nat_lit 309)
  case g =>
    intro n2 n3 n15 n22 n23 n25 n26 n28 n29 n30 n31 n32 n33 n36 n43 n45 n46 n48 n49 n50 n51 n52 n55 n57 n58 n60 n61 n62 n64 n65 n67 n68 n69 n71 n72 n74 n75 n76 n78 n79 n81 n82 n83 n85 n86 n88 n89 n90 n91 n93 n94 n96 n97 n98 n100 n101 n103 n104 n105 n107 n108 n110 n111 n112 n114 n115 n117 n118 n119 n121 n122 n124 n125 n126 n128 n129 n131 n132 n133 n135 n136 n138 n139 n140 n142 n143 n145 n146 n147 n149 n150 n152 n153 n154 n156 n157 n159 n160 n161 n163 n164 n166 n167 n168 n170 n171 n173 n174 n175 n177 n178 n180 n181 n182 n184 n185 n187 n188 n189 n191 n192 n194 n195 n196 n198 n199 n201 n202 n203 n205 n206 n208 n209 n210 n212 n213 n215 n216 n217 n219 n220 n222 n223 n224 n226 n227 n229 n230 n231 n233 n234 n236 n237 n238 n240 n241 n243 n244 n245 n246 n248 n249 n251 n252 n253 n255 n256 n258 n259 n260 n263 n264 n265 n267 n268 n270 n271 n272 n274 n275 n277 n278 n279 n281 n282 n284 n285 n286 n288 n289 n291 n292 n293 n296 n297 n298 n300 n301 n303 n304 n305 n308 n309
    refine (?f : (l : List (Nat × Obj)) → Same l (
      (n2, ⟨.none, none, (.dict #[⟨PyData.keyHash P (Str.ofString "type.__subclasses__.Exception.0"), (.str (Str.ofString "type.__subclasses__.Exception.0") 216), (.int (32) 0)⟩, ⟨PyData.keyHash P (Str.ofString "type.__subclasses__.Exception.n"), (.str (Str.ofString "type.__subclasses__.Exception.n") 217), (.int (1) 0)⟩] 2), #[]⟩) ::
      (n3, ⟨(.type "dict"), none, (.dict (List.toArray (⟨PyData.keyHash P (Str.ofString "__name__"), (.str (Str.ofString "__name__") 165), (.str (Str.ofString "law_pc0194_01") 494)⟩ :: ⟨PyData.keyHash P (Str.ofString "__doc__"), (.str (Str.ofString "__doc__") 166), .none⟩ :: ⟨PyData.keyHash P (Str.ofString "__package__"), (.str (Str.ofString "__package__") 167), .none⟩ :: ⟨PyData.keyHash P (Str.ofString "__loader__"), (.str (Str.ofString "__loader__") 168), (.builtin "__main__.__loader__#opaque")⟩ :: ⟨PyData.keyHash P (Str.ofString "__spec__"), (.str (Str.ofString "__spec__") 169), .none⟩ :: ⟨PyData.keyHash P (Str.ofString "__annotations__"), (.str (Str.ofString "__annotations__") 170), (.ref 6)⟩ :: ⟨PyData.keyHash P (Str.ofString "__builtins__"), (.str (Str.ofString "__builtins__") 171), (.ref 4)⟩ :: ⟨PyData.keyHash P (Str.ofString "__file__"), (.str (Str.ofString "__file__") 173), (.str (Str.ofString "/claim/cut.py") 172)⟩ :: ⟨PyData.keyHash P (Str.ofString "__cached__"), (.str (Str.ofString "__cached__") 174), .none⟩ :: ⟨PyData.keyHash P (Str.ofString "RowsError"), (.str (Str.ofString "RowsError") 219), (.ref 32)⟩ :: ⟨PyData.keyHash P (Str.ofString "Thrown"), (.str (Str.ofString "Thrown") 244), (.ref 52)⟩ :: ⟨PyData.keyHash P (Str.ofString "text_value"), (.str (Str.ofString "text_value") 253), (.ref 61)⟩ :: ⟨PyData.keyHash P (Str.ofString "error_kind"), (.str (Str.ofString "error_kind") 260), (.ref 68)⟩ :: ⟨PyData.keyHash P (Str.ofString "error_value"), (.str (Str.ofString "error_value") 268), (.ref 75)⟩ :: ⟨PyData.keyHash P (Str.ofString "thrown"), (.str (Str.ofString "thrown") 276), (.ref 82)⟩ :: ⟨PyData.keyHash P (Str.ofString "thrown_text"), (.str (Str.ofString "thrown_text") 284), (.ref 89)⟩ :: ⟨PyData.keyHash P (Str.ofString "WIDTHS"), (.str (Str.ofString "WIDTHS") 311), (.ref 90)⟩ :: ⟨PyData.keyHash P (Str.ofString "BIG"), (.str (Str.ofString "BIG") 313), (.str (Str.ofString "BigInt") 312)⟩ :: ⟨PyData.keyHash P (Str.ofString "MOST_BITS"), (.str (Str.ofString "MOST_BITS") 315), (.int (4000) 314)⟩ :: ⟨PyData.keyHash P (Str.ofString "is_number_kind"), (.str (Str.ofString "is_number_kind") 322), (.ref 97)⟩ :: ⟨PyData.keyHash P (Str.ofString "bits_of"), (.str (Str.ofString "bits_of") 329), (.ref 104)⟩ :: ⟨PyData.keyHash P (Str.ofString "is_signed"), (.str (Str.ofString "is_signed") 336), (.ref 111)⟩ :: ⟨PyData.keyHash P (Str.ofString "least"), (.str (Str.ofString "least") 343), (.ref 118)⟩ :: ⟨PyData.keyHash P (Str.ofString "greatest"), (.str (Str.ofString "greatest") 350), (.ref 125)⟩ :: ⟨PyData.keyHash P (Str.ofString "fits"), (.str (Str.ofString "fits") 358), (.ref 132)⟩ :: ⟨PyData.keyHash P (Str.ofString "bounded"), (.str (Str.ofString "bounded") 365), (.ref 139)⟩ :: ⟨PyData.keyHash P (Str.ofString "wrapped"), (.str (Str.ofString "wrapped") 375), (.ref 146)⟩ :: ⟨PyData.keyHash P (Str.ofString "kind_value"), (.str (Str.ofString "kind_value") 382), (.ref 153)⟩ :: ⟨PyData.keyHash P (Str.ofString "converted"), (.str (Str.ofString "converted") 391), (.ref 160)⟩ :: ⟨PyData.keyHash P (Str.ofString "BOOL"), (.str (Str.ofString "BOOL") 395), (.str (Str.ofString "Bool") 394)⟩ :: ⟨PyData.keyHash P (Str.ofString "is_promoted"), (.str (Str.ofString "is_promoted") 402), (.ref 167)⟩ :: ⟨PyData.keyHash P (Str.ofString "rank_of"), (.str (Str.ofString "rank_of") 409), (.ref 174)⟩ :: ⟨PyData.keyHash P (Str.ofString "promoted"), (.str (Str.ofString "promoted") 417), (.ref 181)⟩ :: ⟨PyData.keyHash P (Str.ofString "promoted_all"), (.str (Str.ofString "promoted_all") 426), (.ref 188)⟩ :: ⟨PyData.keyHash P (Str.ofString "number_kind"), (.str (Str.ofString "number_kind") 433), (.ref 195)⟩ :: ⟨PyData.keyHash P (Str.ofString "plain_number"), (.str (Str.ofString "plain_number") 440), (.ref 202)⟩ :: ⟨PyData.keyHash P (Str.ofString "number_value"), (.str (Str.ofString "number_value") 448), (.ref 209)⟩ :: ⟨PyData.keyHash P (Str.ofString "converted_to"), (.str (Str.ofString "converted_to") 457), (.ref 216)⟩ :: ⟨PyData.keyHash P (Str.ofString "led_to"), (.str (Str.ofString "led_to") 465), (.ref 223)⟩ :: ⟨PyData.keyHash P (Str.ofString "converted_both"), (.str (Str.ofString "converted_both") 474), (.ref 230)⟩ :: ⟨PyData.keyHash P (Str.ofString "led_both"), (.str (Str.ofString "led_both") 483), (.ref 237)⟩ :: ⟨PyData.keyHash P (Str.ofString "order_of"), (.str (Str.ofString "order_of") 493), (.ref 244)⟩ :: ⟨PyData.keyHash P (Str.ofString "_law_row"), (.str (Str.ofString "_law_row") 506), (.ref 245)⟩ :: ⟨PyData.keyHash P (Str.ofString "_law_deep"), (.str (Str.ofString "_law_deep") 515), (.ref 252)⟩ :: ⟨PyData.keyHash P (Str.ofString "_law_next"), (.str (Str.ofString "_law_next") 524), (.ref 259)⟩ :: ⟨PyData.keyHash P (Str.ofString "_law_bounds"), (.str (Str.ofString "_law_bounds") 530), (.ref 264)⟩ :: ⟨PyData.keyHash P (Str.ofString "_law_value"), (.str (Str.ofString "_law_value") 541), (.ref 271)⟩ :: ⟨PyData.keyHash P (Str.ofString "_law_seen"), (.str (Str.ofString "_law_seen") 549), (.ref 278)⟩ :: ⟨PyData.keyHash P (Str.ofString "_law_as"), (.str (Str.ofString "_law_as") 557), (.ref 285)⟩ :: ⟨PyData.keyHash P (Str.ofString "_law_led"), (.str (Str.ofString "_law_led") 567), (.ref 292)⟩ :: ⟨PyData.keyHash P (Str.ofString "_law_pair_right"), (.str (Str.ofString "_law_pair_right") 573), (.ref 297)⟩ :: ⟨PyData.keyHash P (Str.ofString "_law_single_right"), (.str (Str.ofString "_law_single_right") 587), (.ref 304)⟩ :: ⟨PyData.keyHash P (Str.ofString "law"), (.str (Str.ofString "law") 593), (.ref 309)⟩ :: [])) 53), #[]⟩) ::
      (n15, ⟨(.type "tuple"), none, (.seq #[(.type "Exception")] 0), #[]⟩) ::
      (n22, ⟨(.type "tuple"), none, (.seq #[.none] 0), #[]⟩) ::
      (n23, ⟨(.type "tuple"), none, (.seq #[] 0), #[]⟩) ::
      (n25, ⟨(.type "tuple"), none, (.seq #[(.str (Str.ofString "self") 204), (.str (Str.ofString "message") 205), (.str (Str.ofString "spot") 206)] 0), #[]⟩) ::
      (n26, ⟨(.type "tuple"), none, (.seq #[] 0), #[]⟩) ::
      (n28, ⟨(.type "code"), none, (.fields #[(.str (Str.ofString "__init__") 201), (.str (Str.ofString "RowsError.__init__") 202), (.str (Str.ofString "/claim/cut.py") 203), (.int (4) 0), (.int (3) 0), (.int (0) 0), (.int (0) 0), (.int (3) 0), (.ref 23), (.bool true), (.int (181) 0), (.ref 24), .none, (.ref 25), (.ref 26), (.ref 27), (.int (207) 0), (.int (4) 0), (.str (Str.ofString "/claim/cut.py") 208)]), #[]⟩) ::
      (n29, ⟨(.type "function"), none, (.func ⟨(Str.ofString "__init__"), (Str.ofString "RowsError.__init__"), argsOf (clsS 1 0), .stmts (bodyOf (clsS 1 0)), scopeOf (clsS 1 0), 3, [], (.ref 22), .none, .none, (.str (Str.ofString "methodrows.errors") 187), none, (.ref 28), .none, 0⟩), #[]⟩) ::
      (n30, ⟨(.type "tuple"), none, (.seq #[(.str (Str.ofString "message") 210), (.str (Str.ofString "spot") 211)] 0), #[]⟩) ::
      (n31, ⟨(.type "dict"), none, (.dict #[⟨PyData.keyHash P (Str.ofString "__module__"), (.str (Str.ofString "__module__") 196), (.str (Str.ofString "methodrows.errors") 187)⟩, ⟨PyData.keyHash P (Str.ofString "__firstlineno__"), (.str (Str.ofString "__firstlineno__") 200), (.int (2) 199)⟩, ⟨PyData.keyHash P (Str.ofString "__init__"), (.str (Str.ofString "__init__") 209), (.ref 29)⟩, ⟨PyData.keyHash P (Str.ofString "__static_attributes__"), (.str (Str.ofString "__static_attributes__") 212), (.ref 30)⟩, ⟨PyData.keyHash P (Str.ofString "__weakref__"), (.str (Str.ofString "__weakref__") 214), (.ref 33)⟩, ⟨PyData.keyHash P (Str.ofString "__doc__"), (.str (Str.ofString "__doc__") 215), .none⟩] 3), #[]⟩) ::
      (n32, ⟨(.type "type"), none, (.cls ⟨(Str.ofString "RowsError"), [(.type "Exception")], [(.ref 32), (.type "Exception"), (.type "BaseException"), (.type "object")], 31, (Str.ofString "RowsError"), true, [], [(.ref 52)], false, none, false⟩), #[(some (.ref 15)), none, (some (.str (Str.ofString "RowsError") 189)), (some (.str (Str.ofString "RowsError") 197)), (some (.builtin "Exception.__new__")), (some (.bool true))]⟩) ::
      (n33, ⟨(.type "getset_descriptor"), none, (.fields #[(.str (Str.ofString "__weakref__") 213), (.ref 32), (.builtin "ExceptionGroup.__weakref__"), .none]), #[]⟩) ::
      (n36, ⟨(.type "tuple"), none, (.seq #[(.ref 32)] 0), #[]⟩) ::
      (n43, ⟨(.type "tuple"), none, (.seq #[] 0), #[]⟩) ::
      (n45, ⟨(.type "tuple"), none, (.seq #[(.str (Str.ofString "self") 235), (.str (Str.ofString "value") 236)] 0), #[]⟩) ::
      (n46, ⟨(.type "tuple"), none, (.seq #[] 0), #[]⟩) ::
      (n48, ⟨(.type "code"), none, (.fields #[(.str (Str.ofString "__init__") 232), (.str (Str.ofString "Thrown.__init__") 233), (.str (Str.ofString "/claim/cut.py") 234), (.int (10) 0), (.int (2) 0), (.int (0) 0), (.int (0) 0), (.int (3) 0), (.ref 43), (.bool true), (.int (181) 0), (.ref 44), .none, (.ref 45), (.ref 46), (.ref 47), (.int (237) 0), (.int (10) 0), (.str (Str.ofString "/claim/cut.py") 238)]), #[]⟩) ::
      (n49, ⟨(.type "function"), none, (.func ⟨(Str.ofString "__init__"), (Str.ofString "Thrown.__init__"), argsOf (clsS 2 0), .stmts (bodyOf (clsS 2 0)), scopeOf (clsS 2 0), 3, [], .none, .none, .none, (.str (Str.ofString "methodrows.errors") 187), none, (.ref 48), .none, 0⟩), #[]⟩) ::
      (n50, ⟨(.type "tuple"), none, (.seq #[(.str (Str.ofString "value") 240)] 0), #[]⟩) ::
      (n51, ⟨(.type "dict"), none, (.dict #[⟨PyData.keyHash P (Str.ofString "__module__"), (.str (Str.ofString "__module__") 227), (.str (Str.ofString "methodrows.errors") 187)⟩, ⟨PyData.keyHash P (Str.ofString "__firstlineno__"), (.str (Str.ofString "__firstlineno__") 231), (.int (8) 230)⟩, ⟨PyData.keyHash P (Str.ofString "__init__"), (.str (Str.ofString "__init__") 239), (.ref 49)⟩, ⟨PyData.keyHash P (Str.ofString "__static_attributes__"), (.str (Str.ofString "__static_attributes__") 241), (.ref 50)⟩, ⟨PyData.keyHash P (Str.ofString "__doc__"), (.str (Str.ofString "__doc__") 242), .none⟩] 2), #[]⟩) ::
      (n52, ⟨(.type "type"), none, (.cls ⟨(Str.ofString "Thrown"), [(.ref 32)], [(.ref 52), (.ref 32), (.type "Exception"), (.type "BaseException"), (.type "object")], 51, (Str.ofString "Thrown"), true, [], [], false, none, false⟩), #[(some (.ref 36)), none, (some (.str (Str.ofString "Thrown") 220)), (some (.str (Str.ofString "Thrown") 228)), (some (.builtin "Exception.__new__")), (some (.bool true))]⟩) ::
      (n55, ⟨(.type "tuple"), none, (.seq #[] 0), #[]⟩) ::
      (n57, ⟨(.type "tuple"), none, (.seq #[(.str (Str.ofString "text") 250)] 0), #[]⟩) ::
      (n58, ⟨(.type "tuple"), none, (.seq #[] 0), #[]⟩) ::
      (n60, ⟨(.type "code"), none, (.fields #[(.str (Str.ofString "text_value") 247), (.str (Str.ofString "text_value") 248), (.str (Str.ofString "/claim/cut.py") 249), (.int (14) 0), (.int (1) 0), (.int (0) 0), (.int (0) 0), (.int (3) 0), (.ref 55), (.bool true), (.int (181) 0), (.ref 56), .none, (.ref 57), (.ref 58), (.ref 59), (.int (251) 0), (.int (14) 0), (.str (Str.ofString "/claim/cut.py") 252)]), #[]⟩) ::
      (n61, ⟨(.type "function"), none, (.func ⟨(Str.ofString "text_value"), (Str.ofString "text_value"), argsOf (topS 4), .stmts (bodyOf (topS 4)), scopeOf (topS 4), 3, [], .none, .none, .none, (.str (Str.ofString "methodrows.forms") 245), none, (.ref 60), .none, 0⟩), #[]⟩) ::
      (n62, ⟨(.type "tuple"), none, (.seq #[] 0), #[]⟩) ::
      (n64, ⟨(.type "tuple"), none, (.seq #[(.str (Str.ofString "name") 257)] 0), #[]⟩) ::
      (n65, ⟨(.type "tuple"), none, (.seq #[] 0), #[]⟩) ::
      (n67, ⟨(.type "code"), none, (.fields #[(.str (Str.ofString "error_kind") 254), (.str (Str.ofString "error_kind") 255), (.str (Str.ofString "/claim/cut.py") 256), (.int (16) 0), (.int (1) 0), (.int (0) 0), (.int (0) 0), (.int (3) 0), (.ref 62), (.bool true), (.int (181) 0), (.ref 63), .none, (.ref 64), (.ref 65), (.ref 66), (.int (258) 0), (.int (16) 0), (.str (Str.ofString "/claim/cut.py") 259)]), #[]⟩) ::
      (n68, ⟨(.type "function"), none, (.func ⟨(Str.ofString "error_kind"), (Str.ofString "error_kind"), argsOf (topS 5), .stmts (bodyOf (topS 5)), scopeOf (topS 5), 3, [], .none, .none, .none, (.str (Str.ofString "methodrows.forms") 245), none, (.ref 67), .none, 0⟩), #[]⟩) ::
      (n69, ⟨(.type "tuple"), none, (.seq #[] 0), #[]⟩) ::
      (n71, ⟨(.type "tuple"), none, (.seq #[(.str (Str.ofString "name") 264), (.str (Str.ofString "parts") 265)] 0), #[]⟩) ::
      (n72, ⟨(.type "tuple"), none, (.seq #[] 0), #[]⟩) ::
      (n74, ⟨(.type "code"), none, (.fields #[(.str (Str.ofString "error_value") 261), (.str (Str.ofString "error_value") 262), (.str (Str.ofString "/claim/cut.py") 263), (.int (18) 0), (.int (2) 0), (.int (0) 0), (.int (0) 0), (.int (3) 0), (.ref 69), (.bool true), (.int (181) 0), (.ref 70), .none, (.ref 71), (.ref 72), (.ref 73), (.int (266) 0), (.int (18) 0), (.str (Str.ofString "/claim/cut.py") 267)]), #[]⟩) ::
      (n75, ⟨(.type "function"), none, (.func ⟨(Str.ofString "error_value"), (Str.ofString "error_value"), argsOf (topS 6), .stmts (bodyOf (topS 6)), scopeOf (topS 6), 3, [], .none, .none, .none, (.str (Str.ofString "methodrows.forms") 245), none, (.ref 74), .none, 0⟩), #[]⟩) ::
      (n76, ⟨(.type "tuple"), none, (.seq #[] 0), #[]⟩) ::
      (n78, ⟨(.type "tuple"), none, (.seq #[(.str (Str.ofString "name") 272), (.str (Str.ofString "parts") 273)] 0), #[]⟩) ::
      (n79, ⟨(.type "tuple"), none, (.seq #[] 0), #[]⟩) ::
      (n81, ⟨(.type "code"), none, (.fields #[(.str (Str.ofString "thrown") 269), (.str (Str.ofString "thrown") 270), (.str (Str.ofString "/claim/cut.py") 271), (.int (20) 0), (.int (2) 0), (.int (0) 0), (.int (0) 0), (.int (3) 0), (.ref 76), (.bool true), (.int (181) 0), (.ref 77), .none, (.ref 78), (.ref 79), (.ref 80), (.int (274) 0), (.int (20) 0), (.str (Str.ofString "/claim/cut.py") 275)]), #[]⟩) ::
      (n82, ⟨(.type "function"), none, (.func ⟨(Str.ofString "thrown"), (Str.ofString "thrown"), argsOf (topS 7), .stmts (bodyOf (topS 7)), scopeOf (topS 7), 3, [], .none, .none, .none, (.str (Str.ofString "methodrows.forms") 245), none, (.ref 81), .none, 0⟩), #[]⟩) ::
      (n83, ⟨(.type "tuple"), none, (.seq #[] 0), #[]⟩) ::
      (n85, ⟨(.type "tuple"), none, (.seq #[(.str (Str.ofString "name") 280), (.str (Str.ofString "text") 281)] 0), #[]⟩) ::
      (n86, ⟨(.type "tuple"), none, (.seq #[] 0), #[]⟩) ::
      (n88, ⟨(.type "code"), none, (.fields #[(.str (Str.ofString "thrown_text") 277), (.str (Str.ofString "thrown_text") 278), (.str (Str.ofString "/claim/cut.py") 279), (.int (22) 0), (.int (2) 0), (.int (0) 0), (.int (0) 0), (.int (3) 0), (.ref 83), (.bool true), (.int (181) 0), (.ref 84), .none, (.ref 85), (.ref 86), (.ref 87), (.int (282) 0), (.int (22) 0), (.str (Str.ofString "/claim/cut.py") 283)]), #[]⟩) ::
      (n89, ⟨(.type "function"), none, (.func ⟨(Str.ofString "thrown_text"), (Str.ofString "thrown_text"), argsOf (topS 8), .stmts (bodyOf (topS 8)), scopeOf (topS 8), 3, [], .none, .none, .none, (.str (Str.ofString "methodrows.forms") 245), none, (.ref 88), .none, 0⟩), #[]⟩) ::
      (n90, ⟨(.type "dict"), none, (.dict #[⟨PyData.keyHash P (Str.ofString "Int8"), (.str (Str.ofString "Int8") 287), (.int (8) 288)⟩, ⟨PyData.keyHash P (Str.ofString "Int16"), (.str (Str.ofString "Int16") 289), (.int (16) 290)⟩, ⟨PyData.keyHash P (Str.ofString "Int32"), (.str (Str.ofString "Int32") 291), (.int (32) 292)⟩, ⟨PyData.keyHash P (Str.ofString "Int64"), (.str (Str.ofString "Int64") 293), (.int (64) 294)⟩, ⟨PyData.keyHash P (Str.ofString "UInt8"), (.str (Str.ofString "UInt8") 295), (.int (8) 296)⟩, ⟨PyData.keyHash P (Str.ofString "UInt16"), (.str (Str.ofString "UInt16") 297), (.int (16) 298)⟩, ⟨PyData.keyHash P (Str.ofString "UInt32"), (.str (Str.ofString "UInt32") 299), (.int (32) 300)⟩, ⟨PyData.keyHash P (Str.ofString "UInt64"), (.str (Str.ofString "UInt64") 301), (.int (64) 302)⟩] 8), #[]⟩) ::
      (n91, ⟨(.type "tuple"), none, (.seq #[] 0), #[]⟩) ::
      (n93, ⟨(.type "tuple"), none, (.seq #[(.str (Str.ofString "kind") 319)] 0), #[]⟩) ::
      (n94, ⟨(.type "tuple"), none, (.seq #[] 0), #[]⟩) ::
      (n96, ⟨(.type "code"), none, (.fields #[(.str (Str.ofString "is_number_kind") 316), (.str (Str.ofString "is_number_kind") 317), (.str (Str.ofString "/claim/cut.py") 318), (.int (28) 0), (.int (1) 0), (.int (0) 0), (.int (0) 0), (.int (3) 0), (.ref 91), (.bool true), (.int (181) 0), (.ref 92), .none, (.ref 93), (.ref 94), (.ref 95), (.int (320) 0), (.int (28) 0), (.str (Str.ofString "/claim/cut.py") 321)]), #[]⟩) ::
      (n97, ⟨(.type "function"), none, (.func ⟨(Str.ofString "is_number_kind"), (Str.ofString "is_number_kind"), argsOf (topS 13), .stmts (bodyOf (topS 13)), scopeOf (topS 13), 3, [], .none, .none, .none, (.str (Str.ofString "methodrows.fixed") 285), none, (.ref 96), .none, 0⟩), #[]⟩) ::
      (n98, ⟨(.type "tuple"), none, (.seq #[] 0), #[]⟩) ::
      (n100, ⟨(.type "tuple"), none, (.seq #[(.str (Str.ofString "kind") 326)] 0), #[]⟩) ::
      (n101, ⟨(.type "tuple"), none, (.seq #[] 0), #[]⟩) ::
      (n103, ⟨(.type "code"), none, (.fields #[(.str (Str.ofString "bits_of") 323), (.str (Str.ofString "bits_of") 324), (.str (Str.ofString "/claim/cut.py") 325), (.int (30) 0), (.int (1) 0), (.int (0) 0), (.int (0) 0), (.int (3) 0), (.ref 98), (.bool true), (.int (181) 0), (.ref 99), .none, (.ref 100), (.ref 101), (.ref 102), (.int (327) 0), (.int (30) 0), (.str (Str.ofString "/claim/cut.py") 328)]), #[]⟩) ::
      (n104, ⟨(.type "function"), none, (.func ⟨(Str.ofString "bits_of"), (Str.ofString "bits_of"), argsOf (topS 14), .stmts (bodyOf (topS 14)), scopeOf (topS 14), 3, [], .none, .none, .none, (.str (Str.ofString "methodrows.fixed") 285), none, (.ref 103), .none, 0⟩), #[]⟩) ::
      (n105, ⟨(.type "tuple"), none, (.seq #[] 0), #[]⟩) ::
      (n107, ⟨(.type "tuple"), none, (.seq #[(.str (Str.ofString "kind") 333)] 0), #[]⟩) ::
      (n108, ⟨(.type "tuple"), none, (.seq #[] 0), #[]⟩) ::
      (n110, ⟨(.type "code"), none, (.fields #[(.str (Str.ofString "is_signed") 330), (.str (Str.ofString "is_signed") 331), (.str (Str.ofString "/claim/cut.py") 332), (.int (32) 0), (.int (1) 0), (.int (0) 0), (.int (0) 0), (.int (3) 0), (.ref 105), (.bool true), (.int (181) 0), (.ref 106), .none, (.ref 107), (.ref 108), (.ref 109), (.int (334) 0), (.int (32) 0), (.str (Str.ofString "/claim/cut.py") 335)]), #[]⟩) ::
      (n111, ⟨(.type "function"), none, (.func ⟨(Str.ofString "is_signed"), (Str.ofString "is_signed"), argsOf (topS 15), .stmts (bodyOf (topS 15)), scopeOf (topS 15), 3, [], .none, .none, .none, (.str (Str.ofString "methodrows.fixed") 285), none, (.ref 110), .none, 0⟩), #[]⟩) ::
      (n112, ⟨(.type "tuple"), none, (.seq #[] 0), #[]⟩) ::
      (n114, ⟨(.type "tuple"), none, (.seq #[(.str (Str.ofString "kind") 340)] 0), #[]⟩) ::
      (n115, ⟨(.type "tuple"), none, (.seq #[] 0), #[]⟩) ::
      (n117, ⟨(.type "code"), none, (.fields #[(.str (Str.ofString "least") 337), (.str (Str.ofString "least") 338), (.str (Str.ofString "/claim/cut.py") 339), (.int (34) 0), (.int (1) 0), (.int (0) 0), (.int (0) 0), (.int (3) 0), (.ref 112), (.bool true), (.int (181) 0), (.ref 113), .none, (.ref 114), (.ref 115), (.ref 116), (.int (341) 0), (.int (34) 0), (.str (Str.ofString "/claim/cut.py") 342)]), #[]⟩) ::
      (n118, ⟨(.type "function"), none, (.func ⟨(Str.ofString "least"), (Str.ofString "least"), argsOf (topS 16), .stmts (bodyOf (topS 16)), scopeOf (topS 16), 3, [], .none, .none, .none, (.str (Str.ofString "methodrows.fixed") 285), none, (.ref 117), .none, 0⟩), #[]⟩) ::
      (n119, ⟨(.type "tuple"), none, (.seq #[] 0), #[]⟩) ::
      (n121, ⟨(.type "tuple"), none, (.seq #[(.str (Str.ofString "kind") 347)] 0), #[]⟩) ::
      (n122, ⟨(.type "tuple"), none, (.seq #[] 0), #[]⟩) ::
      (n124, ⟨(.type "code"), none, (.fields #[(.str (Str.ofString "greatest") 344), (.str (Str.ofString "greatest") 345), (.str (Str.ofString "/claim/cut.py") 346), (.int (38) 0), (.int (1) 0), (.int (0) 0), (.int (0) 0), (.int (3) 0), (.ref 119), (.bool true), (.int (181) 0), (.ref 120), .none, (.ref 121), (.ref 122), (.ref 123), (.int (348) 0), (.int (38) 0), (.str (Str.ofString "/claim/cut.py") 349)]), #[]⟩) ::
      (n125, ⟨(.type "function"), none, (.func ⟨(Str.ofString "greatest"), (Str.ofString "greatest"), argsOf (topS 17), .stmts (bodyOf (topS 17)), scopeOf (topS 17), 3, [], .none, .none, .none, (.str (Str.ofString "methodrows.fixed") 285), none, (.ref 124), .none, 0⟩), #[]⟩) ::
      (n126, ⟨(.type "tuple"), none, (.seq #[] 0), #[]⟩) ::
      (n128, ⟨(.type "tuple"), none, (.seq #[(.str (Str.ofString "kind") 354), (.str (Str.ofString "number") 355)] 0), #[]⟩) ::
      (n129, ⟨(.type "tuple"), none, (.seq #[] 0), #[]⟩) ::
      (n131, ⟨(.type "code"), none, (.fields #[(.str (Str.ofString "fits") 351), (.str (Str.ofString "fits") 352), (.str (Str.ofString "/claim/cut.py") 353), (.int (42) 0), (.int (2) 0), (.int (0) 0), (.int (0) 0), (.int (3) 0), (.ref 126), (.bool true), (.int (181) 0), (.ref 127), .none, (.ref 128), (.ref 129), (.ref 130), (.int (356) 0), (.int (42) 0), (.str (Str.ofString "/claim/cut.py") 357)]), #[]⟩) ::
      (n132, ⟨(.type "function"), none, (.func ⟨(Str.ofString "fits"), (Str.ofString "fits"), argsOf (topS 18), .stmts (bodyOf (topS 18)), scopeOf (topS 18), 3, [], .none, .none, .none, (.str (Str.ofString "methodrows.fixed") 285), none, (.ref 131), .none, 0⟩), #[]⟩) ::
      (n133, ⟨(.type "tuple"), none, (.seq #[] 0), #[]⟩) ::
      (n135, ⟨(.type "tuple"), none, (.seq #[(.str (Str.ofString "number") 362)] 0), #[]⟩) ::
      (n136, ⟨(.type "tuple"), none, (.seq #[] 0), #[]⟩) ::
      (n138, ⟨(.type "code"), none, (.fields #[(.str (Str.ofString "bounded") 359), (.str (Str.ofString "bounded") 360), (.str (Str.ofString "/claim/cut.py") 361), (.int (44) 0), (.int (1) 0), (.int (0) 0), (.int (0) 0), (.int (3) 0), (.ref 133), (.bool true), (.int (181) 0), (.ref 134), .none, (.ref 135), (.ref 136), (.ref 137), (.int (363) 0), (.int (44) 0), (.str (Str.ofString "/claim/cut.py") 364)]), #[]⟩) ::
      (n139, ⟨(.type "function"), none, (.func ⟨(Str.ofString "bounded"), (Str.ofString "bounded"), argsOf (topS 19), .stmts (bodyOf (topS 19)), scopeOf (topS 19), 3, [], .none, .none, .none, (.str (Str.ofString "methodrows.fixed") 285), none, (.ref 138), .none, 0⟩), #[]⟩) ::
      (n140, ⟨(.type "tuple"), none, (.seq #[] 0), #[]⟩) ::
      (n142, ⟨(.type "tuple"), none, (.seq #[(.str (Str.ofString "kind") 369), (.str (Str.ofString "number") 370), (.str (Str.ofString "width") 371), (.str (Str.ofString "low") 372)] 0), #[]⟩) ::
      (n143, ⟨(.type "tuple"), none, (.seq #[] 0), #[]⟩) ::
      (n145, ⟨(.type "code"), none, (.fields #[(.str (Str.ofString "wrapped") 366), (.str (Str.ofString "wrapped") 367), (.str (Str.ofString "/claim/cut.py") 368), (.int (48) 0), (.int (2) 0), (.int (0) 0), (.int (0) 0), (.int (3) 0), (.ref 140), (.bool true), (.int (181) 0), (.ref 141), .none, (.ref 142), (.ref 143), (.ref 144), (.int (373) 0), (.int (48) 0), (.str (Str.ofString "/claim/cut.py") 374)]), #[]⟩) ::
      (n146, ⟨(.type "function"), none, (.func ⟨(Str.ofString "wrapped"), (Str.ofString "wrapped"), argsOf (topS 20), .stmts (bodyOf (topS 20)), scopeOf (topS 20), 3, [], .none, .none, .none, (.str (Str.ofString "methodrows.fixed") 285), none, (.ref 145), .none, 0⟩), #[]⟩) ::
      (n147, ⟨(.type "tuple"), none, (.seq #[] 0), #[]⟩) ::
      (n149, ⟨(.type "tuple"), none, (.seq #[(.str (Str.ofString "kind") 379)] 0), #[]⟩) ::
      (n150, ⟨(.type "tuple"), none, (.seq #[] 0), #[]⟩) ::
      (n152, ⟨(.type "code"), none, (.fields #[(.str (Str.ofString "kind_value") 376), (.str (Str.ofString "kind_value") 377), (.str (Str.ofString "/claim/cut.py") 378), (.int (54) 0), (.int (1) 0), (.int (0) 0), (.int (0) 0), (.int (3) 0), (.ref 147), (.bool true), (.int (181) 0), (.ref 148), .none, (.ref 149), (.ref 150), (.ref 151), (.int (380) 0), (.int (54) 0), (.str (Str.ofString "/claim/cut.py") 381)]), #[]⟩) ::
      (n153, ⟨(.type "function"), none, (.func ⟨(Str.ofString "kind_value"), (Str.ofString "kind_value"), argsOf (topS 21), .stmts (bodyOf (topS 21)), scopeOf (topS 21), 3, [], .none, .none, .none, (.str (Str.ofString "methodrows.fixed") 285), none, (.ref 152), .none, 0⟩), #[]⟩) ::
      (n154, ⟨(.type "tuple"), none, (.seq #[] 0), #[]⟩) ::
      (n156, ⟨(.type "tuple"), none, (.seq #[(.str (Str.ofString "kind") 386), (.str (Str.ofString "number") 387), (.str (Str.ofString "value") 388)] 0), #[]⟩) ::
      (n157, ⟨(.type "tuple"), none, (.seq #[] 0), #[]⟩) ::
      (n159, ⟨(.type "code"), none, (.fields #[(.str (Str.ofString "converted") 383), (.str (Str.ofString "converted") 384), (.str (Str.ofString "/claim/cut.py") 385), (.int (56) 0), (.int (3) 0), (.int (0) 0), (.int (0) 0), (.int (3) 0), (.ref 154), (.bool true), (.int (181) 0), (.ref 155), .none, (.ref 156), (.ref 157), (.ref 158), (.int (389) 0), (.int (56) 0), (.str (Str.ofString "/claim/cut.py") 390)]), #[]⟩) ::
      (n160, ⟨(.type "function"), none, (.func ⟨(Str.ofString "converted"), (Str.ofString "converted"), argsOf (topS 22), .stmts (bodyOf (topS 22)), scopeOf (topS 22), 3, [], .none, .none, .none, (.str (Str.ofString "methodrows.fixed") 285), none, (.ref 159), .none, 0⟩), #[]⟩) ::
      (n161, ⟨(.type "tuple"), none, (.seq #[] 0), #[]⟩) ::
      (n163, ⟨(.type "tuple"), none, (.seq #[(.str (Str.ofString "kind") 399)] 0), #[]⟩) ::
      (n164, ⟨(.type "tuple"), none, (.seq #[] 0), #[]⟩) ::
      (n166, ⟨(.type "code"), none, (.fields #[(.str (Str.ofString "is_promoted") 396), (.str (Str.ofString "is_promoted") 397), (.str (Str.ofString "/claim/cut.py") 398), (.int (64) 0), (.int (1) 0), (.int (0) 0), (.int (0) 0), (.int (3) 0), (.ref 161), (.bool true), (.int (181) 0), (.ref 162), .none, (.ref 163), (.ref 164), (.ref 165), (.int (400) 0), (.int (64) 0), (.str (Str.ofString "/claim/cut.py") 401)]), #[]⟩) ::
      (n167, ⟨(.type "function"), none, (.func ⟨(Str.ofString "is_promoted"), (Str.ofString "is_promoted"), argsOf (topS 25), .stmts (bodyOf (topS 25)), scopeOf (topS 25), 3, [], .none, .none, .none, (.str (Str.ofString "methodrows.promote") 392), none, (.ref 166), .none, 0⟩), #[]⟩) ::
      (n168, ⟨(.type "tuple"), none, (.seq #[] 0), #[]⟩) ::
      (n170, ⟨(.type "tuple"), none, (.seq #[(.str (Str.ofString "kind") 406)] 0), #[]⟩) ::
      (n171, ⟨(.type "tuple"), none, (.seq #[] 0), #[]⟩) ::
      (n173, ⟨(.type "code"), none, (.fields #[(.str (Str.ofString "rank_of") 403), (.str (Str.ofString "rank_of") 404), (.str (Str.ofString "/claim/cut.py") 405), (.int (66) 0), (.int (1) 0), (.int (0) 0), (.int (0) 0), (.int (3) 0), (.ref 168), (.bool true), (.int (181) 0), (.ref 169), .none, (.ref 170), (.ref 171), (.ref 172), (.int (407) 0), (.int (66) 0), (.str (Str.ofString "/claim/cut.py") 408)]), #[]⟩) ::
      (n174, ⟨(.type "function"), none, (.func ⟨(Str.ofString "rank_of"), (Str.ofString "rank_of"), argsOf (topS 26), .stmts (bodyOf (topS 26)), scopeOf (topS 26), 3, [], .none, .none, .none, (.str (Str.ofString "methodrows.promote") 392), none, (.ref 173), .none, 0⟩), #[]⟩) ::
      (n175, ⟨(.type "tuple"), none, (.seq #[] 0), #[]⟩) ::
      (n177, ⟨(.type "tuple"), none, (.seq #[(.str (Str.ofString "one") 413), (.str (Str.ofString "other") 414)] 0), #[]⟩) ::
      (n178, ⟨(.type "tuple"), none, (.seq #[] 0), #[]⟩) ::
      (n180, ⟨(.type "code"), none, (.fields #[(.str (Str.ofString "promoted") 410), (.str (Str.ofString "promoted") 411), (.str (Str.ofString "/claim/cut.py") 412), (.int (70) 0), (.int (2) 0), (.int (0) 0), (.int (0) 0), (.int (3) 0), (.ref 175), (.bool true), (.int (181) 0), (.ref 176), .none, (.ref 177), (.ref 178), (.ref 179), (.int (415) 0), (.int (70) 0), (.str (Str.ofString "/claim/cut.py") 416)]), #[]⟩) ::
      (n181, ⟨(.type "function"), none, (.func ⟨(Str.ofString "promoted"), (Str.ofString "promoted"), argsOf (topS 27), .stmts (bodyOf (topS 27)), scopeOf (topS 27), 3, [], .none, .none, .none, (.str (Str.ofString "methodrows.promote") 392), none, (.ref 180), .none, 0⟩), #[]⟩) ::
      (n182, ⟨(.type "tuple"), none, (.seq #[] 0), #[]⟩) ::
      (n184, ⟨(.type "tuple"), none, (.seq #[(.str (Str.ofString "kinds") 421), (.str (Str.ofString "found") 422), (.str (Str.ofString "kind") 423)] 0), #[]⟩) ::
      (n185, ⟨(.type "tuple"), none, (.seq #[] 0), #[]⟩) ::
      (n187, ⟨(.type "code"), none, (.fields #[(.str (Str.ofString "promoted_all") 418), (.str (Str.ofString "promoted_all") 419), (.str (Str.ofString "/claim/cut.py") 420), (.int (74) 0), (.int (1) 0), (.int (0) 0), (.int (0) 0), (.int (3) 0), (.ref 182), (.bool true), (.int (181) 0), (.ref 183), .none, (.ref 184), (.ref 185), (.ref 186), (.int (424) 0), (.int (74) 0), (.str (Str.ofString "/claim/cut.py") 425)]), #[]⟩) ::
      (n188, ⟨(.type "function"), none, (.func ⟨(Str.ofString "promoted_all"), (Str.ofString "promoted_all"), argsOf (topS 28), .stmts (bodyOf (topS 28)), scopeOf (topS 28), 3, [], .none, .none, .none, (.str (Str.ofString "methodrows.promote") 392), none, (.ref 187), .none, 0⟩), #[]⟩) ::
      (n189, ⟨(.type "tuple"), none, (.seq #[] 0), #[]⟩) ::
      (n191, ⟨(.type "tuple"), none, (.seq #[(.str (Str.ofString "value") 430)] 0), #[]⟩) ::
      (n192, ⟨(.type "tuple"), none, (.seq #[] 0), #[]⟩) ::
      (n194, ⟨(.type "code"), none, (.fields #[(.str (Str.ofString "number_kind") 427), (.str (Str.ofString "number_kind") 428), (.str (Str.ofString "/claim/cut.py") 429), (.int (79) 0), (.int (1) 0), (.int (0) 0), (.int (0) 0), (.int (3) 0), (.ref 189), (.bool true), (.int (181) 0), (.ref 190), .none, (.ref 191), (.ref 192), (.ref 193), (.int (431) 0), (.int (79) 0), (.str (Str.ofString "/claim/cut.py") 432)]), #[]⟩) ::
      (n195, ⟨(.type "function"), none, (.func ⟨(Str.ofString "number_kind"), (Str.ofString "number_kind"), argsOf (topS 29), .stmts (bodyOf (topS 29)), scopeOf (topS 29), 3, [], .none, .none, .none, (.str (Str.ofString "methodrows.promote") 392), none, (.ref 194), .none, 0⟩), #[]⟩) ::
      (n196, ⟨(.type "tuple"), none, (.seq #[] 0), #[]⟩) ::
      (n198, ⟨(.type "tuple"), none, (.seq #[(.str (Str.ofString "value") 437)] 0), #[]⟩) ::
      (n199, ⟨(.type "tuple"), none, (.seq #[] 0), #[]⟩) ::
      (n201, ⟨(.type "code"), none, (.fields #[(.str (Str.ofString "plain_number") 434), (.str (Str.ofString "plain_number") 435), (.str (Str.ofString "/claim/cut.py") 436), (.int (83) 0), (.int (1) 0), (.int (0) 0), (.int (0) 0), (.int (3) 0), (.ref 196), (.bool true), (.int (181) 0), (.ref 197), .none, (.ref 198), (.ref 199), (.ref 200), (.int (438) 0), (.int (83) 0), (.str (Str.ofString "/claim/cut.py") 439)]), #[]⟩) ::
      (n202, ⟨(.type "function"), none, (.func ⟨(Str.ofString "plain_number"), (Str.ofString "plain_number"), argsOf (topS 30), .stmts (bodyOf (topS 30)), scopeOf (topS 30), 3, [], .none, .none, .none, (.str (Str.ofString "methodrows.promote") 392), none, (.ref 201), .none, 0⟩), #[]⟩) ::
      (n203, ⟨(.type "tuple"), none, (.seq #[] 0), #[]⟩) ::
      (n205, ⟨(.type "tuple"), none, (.seq #[(.str (Str.ofString "kind") 444), (.str (Str.ofString "number") 445)] 0), #[]⟩) ::
      (n206, ⟨(.type "tuple"), none, (.seq #[] 0), #[]⟩) ::
      (n208, ⟨(.type "code"), none, (.fields #[(.str (Str.ofString "number_value") 441), (.str (Str.ofString "number_value") 442), (.str (Str.ofString "/claim/cut.py") 443), (.int (85) 0), (.int (2) 0), (.int (0) 0), (.int (0) 0), (.int (3) 0), (.ref 203), (.bool true), (.int (181) 0), (.ref 204), .none, (.ref 205), (.ref 206), (.ref 207), (.int (446) 0), (.int (85) 0), (.str (Str.ofString "/claim/cut.py") 447)]), #[]⟩) ::
      (n209, ⟨(.type "function"), none, (.func ⟨(Str.ofString "number_value"), (Str.ofString "number_value"), argsOf (topS 31), .stmts (bodyOf (topS 31)), scopeOf (topS 31), 3, [], .none, .none, .none, (.str (Str.ofString "methodrows.promote") 392), none, (.ref 208), .none, 0⟩), #[]⟩) ::
      (n210, ⟨(.type "tuple"), none, (.seq #[] 0), #[]⟩) ::
      (n212, ⟨(.type "tuple"), none, (.seq #[(.str (Str.ofString "kind") 452), (.str (Str.ofString "value") 453), (.str (Str.ofString "number") 454)] 0), #[]⟩) ::
      (n213, ⟨(.type "tuple"), none, (.seq #[] 0), #[]⟩) ::
      (n215, ⟨(.type "code"), none, (.fields #[(.str (Str.ofString "converted_to") 449), (.str (Str.ofString "converted_to") 450), (.str (Str.ofString "/claim/cut.py") 451), (.int (87) 0), (.int (2) 0), (.int (0) 0), (.int (0) 0), (.int (3) 0), (.ref 210), (.bool true), (.int (181) 0), (.ref 211), .none, (.ref 212), (.ref 213), (.ref 214), (.int (455) 0), (.int (87) 0), (.str (Str.ofString "/claim/cut.py") 456)]), #[]⟩) ::
      (n216, ⟨(.type "function"), none, (.func ⟨(Str.ofString "converted_to"), (Str.ofString "converted_to"), argsOf (topS 32), .stmts (bodyOf (topS 32)), scopeOf (topS 32), 3, [], .none, .none, .none, (.str (Str.ofString "methodrows.promote") 392), none, (.ref 215), .none, 0⟩), #[]⟩) ::
      (n217, ⟨(.type "tuple"), none, (.seq #[] 0), #[]⟩) ::
      (n219, ⟨(.type "tuple"), none, (.seq #[(.str (Str.ofString "kind") 461), (.str (Str.ofString "value") 462)] 0), #[]⟩) ::
      (n220, ⟨(.type "tuple"), none, (.seq #[] 0), #[]⟩) ::
      (n222, ⟨(.type "code"), none, (.fields #[(.str (Str.ofString "led_to") 458), (.str (Str.ofString "led_to") 459), (.str (Str.ofString "/claim/cut.py") 460), (.int (94) 0), (.int (2) 0), (.int (0) 0), (.int (0) 0), (.int (3) 0), (.ref 217), (.bool true), (.int (181) 0), (.ref 218), .none, (.ref 219), (.ref 220), (.ref 221), (.int (463) 0), (.int (94) 0), (.str (Str.ofString "/claim/cut.py") 464)]), #[]⟩) ::
      (n223, ⟨(.type "function"), none, (.func ⟨(Str.ofString "led_to"), (Str.ofString "led_to"), argsOf (topS 33), .stmts (bodyOf (topS 33)), scopeOf (topS 33), 3, [], .none, .none, .none, (.str (Str.ofString "methodrows.promote") 392), none, (.ref 222), .none, 0⟩), #[]⟩) ::
      (n224, ⟨(.type "tuple"), none, (.seq #[] 0), #[]⟩) ::
      (n226, ⟨(.type "tuple"), none, (.seq #[(.str (Str.ofString "one") 469), (.str (Str.ofString "other") 470), (.str (Str.ofString "kind") 471)] 0), #[]⟩) ::
      (n227, ⟨(.type "tuple"), none, (.seq #[] 0), #[]⟩) ::
      (n229, ⟨(.type "code"), none, (.fields #[(.str (Str.ofString "converted_both") 466), (.str (Str.ofString "converted_both") 467), (.str (Str.ofString "/claim/cut.py") 468), (.int (96) 0), (.int (2) 0), (.int (0) 0), (.int (0) 0), (.int (3) 0), (.ref 224), (.bool true), (.int (181) 0), (.ref 225), .none, (.ref 226), (.ref 227), (.ref 228), (.int (472) 0), (.int (96) 0), (.str (Str.ofString "/claim/cut.py") 473)]), #[]⟩) ::
      (n230, ⟨(.type "function"), none, (.func ⟨(Str.ofString "converted_both"), (Str.ofString "converted_both"), argsOf (topS 34), .stmts (bodyOf (topS 34)), scopeOf (topS 34), 3, [], .none, .none, .none, (.str (Str.ofString "methodrows.promote") 392), none, (.ref 229), .none, 0⟩), #[]⟩) ::
      (n231, ⟨(.type "tuple"), none, (.seq #[] 0), #[]⟩) ::
      (n233, ⟨(.type "tuple"), none, (.seq #[(.str (Str.ofString "one") 478), (.str (Str.ofString "other") 479), (.str (Str.ofString "kind") 480)] 0), #[]⟩) ::
      (n234, ⟨(.type "tuple"), none, (.seq #[] 0), #[]⟩) ::
      (n236, ⟨(.type "code"), none, (.fields #[(.str (Str.ofString "led_both") 475), (.str (Str.ofString "led_both") 476), (.str (Str.ofString "/claim/cut.py") 477), (.int (99) 0), (.int (2) 0), (.int (0) 0), (.int (0) 0), (.int (3) 0), (.ref 231), (.bool true), (.int (181) 0), (.ref 232), .none, (.ref 233), (.ref 234), (.ref 235), (.int (481) 0), (.int (99) 0), (.str (Str.ofString "/claim/cut.py") 482)]), #[]⟩) ::
      (n237, ⟨(.type "function"), none, (.func ⟨(Str.ofString "led_both"), (Str.ofString "led_both"), argsOf (topS 35), .stmts (bodyOf (topS 35)), scopeOf (topS 35), 3, [], .none, .none, .none, (.str (Str.ofString "methodrows.promote") 392), none, (.ref 236), .none, 0⟩), #[]⟩) ::
      (n238, ⟨(.type "tuple"), none, (.seq #[] 0), #[]⟩) ::
      (n240, ⟨(.type "tuple"), none, (.seq #[(.str (Str.ofString "one") 487), (.str (Str.ofString "other") 488), (.str (Str.ofString "left") 489), (.str (Str.ofString "right") 490)] 0), #[]⟩) ::
      (n241, ⟨(.type "tuple"), none, (.seq #[] 0), #[]⟩) ::
      (n243, ⟨(.type "code"), none, (.fields #[(.str (Str.ofString "order_of") 484), (.str (Str.ofString "order_of") 485), (.str (Str.ofString "/claim/cut.py") 486), (.int (104) 0), (.int (2) 0), (.int (0) 0), (.int (0) 0), (.int (3) 0), (.ref 238), (.bool true), (.int (181) 0), (.ref 239), .none, (.ref 240), (.ref 241), (.ref 242), (.int (491) 0), (.int (104) 0), (.str (Str.ofString "/claim/cut.py") 492)]), #[]⟩) ::
      (n244, ⟨(.type "function"), none, (.func ⟨(Str.ofString "order_of"), (Str.ofString "order_of"), argsOf (topS 36), .stmts (bodyOf (topS 36)), scopeOf (topS 36), 3, [], .none, .none, .none, (.str (Str.ofString "methodrows.promote") 392), none, (.ref 243), .none, 0⟩), #[]⟩) ::
      (n245, ⟨(.type "list"), none, (.seq #[(.str (Str.ofString "Bool") 496), (.str (Str.ofString "Int8") 497), (.str (Str.ofString "UInt8") 498), (.str (Str.ofString "Int16") 499), (.str (Str.ofString "UInt16") 500), (.str (Str.ofString "Int32") 501), (.str (Str.ofString "UInt32") 502), (.str (Str.ofString "Int64") 503), (.str (Str.ofString "UInt64") 504), (.str (Str.ofString "BigInt") 505)] 0), #[]⟩) ::
      (n246, ⟨(.type "tuple"), none, (.seq #[] 0), #[]⟩) ::
      (n248, ⟨(.type "tuple"), none, (.seq #[(.str (Str.ofString "script") 510), (.str (Str.ofString "here") 511), (.str (Str.ofString "twice") 512)] 0), #[]⟩) ::
      (n249, ⟨(.type "tuple"), none, (.seq #[] 0), #[]⟩) ::
      (n251, ⟨(.type "code"), none, (.fields #[(.str (Str.ofString "_law_deep") 507), (.str (Str.ofString "_law_deep") 508), (.str (Str.ofString "/claim/cut.py") 509), (.int (109) 0), (.int (1) 0), (.int (0) 0), (.int (0) 0), (.int (3) 0), (.ref 246), (.bool true), (.int (181) 0), (.ref 247), .none, (.ref 248), (.ref 249), (.ref 250), (.int (513) 0), (.int (109) 0), (.str (Str.ofString "/claim/cut.py") 514)]), #[]⟩) ::
      (n252, ⟨(.type "function"), none, (.func ⟨(Str.ofString "_law_deep"), (Str.ofString "_law_deep"), argsOf (topS 39), .stmts (bodyOf (topS 39)), scopeOf (topS 39), 3, [], .none, .none, .none, (.str (Str.ofString "law_pc0194_01") 494), none, (.ref 251), .none, 0⟩), #[]⟩) ::
      (n253, ⟨(.type "tuple"), none, (.seq #[] 0), #[]⟩) ::
      (n255, ⟨(.type "tuple"), none, (.seq #[(.str (Str.ofString "deep") 519), (.str (Str.ofString "most") 520), (.str (Str.ofString "figure") 521)] 0), #[]⟩) ::
      (n256, ⟨(.type "tuple"), none, (.seq #[] 0), #[]⟩) ::
      (n258, ⟨(.type "code"), none, (.fields #[(.str (Str.ofString "_law_next") 516), (.str (Str.ofString "_law_next") 517), (.str (Str.ofString "/claim/cut.py") 518), (.int (113) 0), (.int (2) 0), (.int (0) 0), (.int (0) 0), (.int (3) 0), (.ref 253), (.bool true), (.int (181) 0), (.ref 254), .none, (.ref 255), (.ref 256), (.ref 257), (.int (522) 0), (.int (113) 0), (.str (Str.ofString "/claim/cut.py") 523)]), #[]⟩) ::
      (n259, ⟨(.type "function"), none, (.func ⟨(Str.ofString "_law_next"), (Str.ofString "_law_next"), argsOf (topS 40), .stmts (bodyOf (topS 40)), scopeOf (topS 40), 3, [], .none, .none, .none, (.str (Str.ofString "law_pc0194_01") 494), none, (.ref 258), .none, 0⟩), #[]⟩) ::
      (n260, ⟨(.type "tuple"), none, (.seq #[] 0), #[]⟩) ::
      (n263, ⟨(.type "code"), none, (.fields #[(.str (Str.ofString "_law_bounds") 525), (.str (Str.ofString "_law_bounds") 526), (.str (Str.ofString "/claim/cut.py") 527), (.int (120) 0), (.int (1) 0), (.int (0) 0), (.int (0) 0), (.int (3) 0), (.ref 260), (.bool true), (.int (181) 0), (.ref 261), .none, .none, .none, (.ref 262), (.int (528) 0), (.int (120) 0), (.str (Str.ofString "/claim/cut.py") 529)]), #[]⟩) ::
      (n264, ⟨(.type "function"), none, (.func ⟨(Str.ofString "_law_bounds"), (Str.ofString "_law_bounds"), argsOf (topS 41), .stmts (bodyOf (topS 41)), scopeOf (topS 41), 3, [], .none, .none, .none, (.str (Str.ofString "law_pc0194_01") 494), none, (.ref 263), .none, 0⟩), #[]⟩) ::
      (n265, ⟨(.type "tuple"), none, (.seq #[] 0), #[]⟩) ::
      (n267, ⟨(.type "tuple"), none, (.seq #[(.str (Str.ofString "deep") 534), (.str (Str.ofString "kind") 535), (.str (Str.ofString "low") 536), (.str (Str.ofString "high") 537), (.str (Str.ofString "number") 538)] 0), #[]⟩) ::
      (n268, ⟨(.type "tuple"), none, (.seq #[] 0), #[]⟩) ::
      (n270, ⟨(.type "code"), none, (.fields #[(.str (Str.ofString "_law_value") 531), (.str (Str.ofString "_law_value") 532), (.str (Str.ofString "/claim/cut.py") 533), (.int (127) 0), (.int (1) 0), (.int (0) 0), (.int (0) 0), (.int (3) 0), (.ref 265), (.bool true), (.int (181) 0), (.ref 266), .none, (.ref 267), (.ref 268), (.ref 269), (.int (539) 0), (.int (127) 0), (.str (Str.ofString "/claim/cut.py") 540)]), #[]⟩) ::
      (n271, ⟨(.type "function"), none, (.func ⟨(Str.ofString "_law_value"), (Str.ofString "_law_value"), argsOf (topS 42), .stmts (bodyOf (topS 42)), scopeOf (topS 42), 3, [], .none, .none, .none, (.str (Str.ofString "law_pc0194_01") 494), none, (.ref 270), .none, 0⟩), #[]⟩) ::
      (n272, ⟨(.type "tuple"), none, (.seq #[] 0), #[]⟩) ::
      (n274, ⟨(.type "tuple"), none, (.seq #[(.str (Str.ofString "deed") 545), (.str (Str.ofString "fault") 546)] 0), #[]⟩) ::
      (n275, ⟨(.type "tuple"), none, (.seq #[] 0), #[]⟩) ::
      (n277, ⟨(.type "code"), none, (.fields #[(.str (Str.ofString "_law_seen") 542), (.str (Str.ofString "_law_seen") 543), (.str (Str.ofString "/claim/cut.py") 544), (.int (132) 0), (.int (1) 0), (.int (0) 0), (.int (0) 0), (.int (3) 0), (.ref 272), (.bool true), (.int (181) 0), (.ref 273), .none, (.ref 274), (.ref 275), (.ref 276), (.int (547) 0), (.int (132) 0), (.str (Str.ofString "/claim/cut.py") 548)]), #[]⟩) ::
      (n278, ⟨(.type "function"), none, (.func ⟨(Str.ofString "_law_seen"), (Str.ofString "_law_seen"), argsOf (topS 43), .stmts (bodyOf (topS 43)), scopeOf (topS 43), 3, [], .none, .none, .none, (.str (Str.ofString "law_pc0194_01") 494), none, (.ref 277), .none, 0⟩), #[]⟩) ::
      (n279, ⟨(.type "tuple"), none, (.seq #[] 0), #[]⟩) ::
      (n281, ⟨(.type "tuple"), none, (.seq #[(.str (Str.ofString "kind") 553), (.str (Str.ofString "number") 554)] 0), #[]⟩) ::
      (n282, ⟨(.type "tuple"), none, (.seq #[] 0), #[]⟩) ::
      (n284, ⟨(.type "code"), none, (.fields #[(.str (Str.ofString "_law_as") 550), (.str (Str.ofString "_law_as") 551), (.str (Str.ofString "/claim/cut.py") 552), (.int (137) 0), (.int (2) 0), (.int (0) 0), (.int (0) 0), (.int (3) 0), (.ref 279), (.bool true), (.int (181) 0), (.ref 280), .none, (.ref 281), (.ref 282), (.ref 283), (.int (555) 0), (.int (137) 0), (.str (Str.ofString "/claim/cut.py") 556)]), #[]⟩) ::
      (n285, ⟨(.type "function"), none, (.func ⟨(Str.ofString "_law_as"), (Str.ofString "_law_as"), argsOf (topS 44), .stmts (bodyOf (topS 44)), scopeOf (topS 44), 3, [], .none, .none, .none, (.str (Str.ofString "law_pc0194_01") 494), none, (.ref 284), .none, 0⟩), #[]⟩) ::
      (n286, ⟨(.type "tuple"), none, (.seq #[] 0), #[]⟩) ::
      (n288, ⟨(.type "tuple"), none, (.seq #[(.str (Str.ofString "kind") 561), (.str (Str.ofString "number") 562), (.str (Str.ofString "low") 563), (.str (Str.ofString "high") 564)] 0), #[]⟩) ::
      (n289, ⟨(.type "tuple"), none, (.seq #[] 0), #[]⟩) ::
      (n291, ⟨(.type "code"), none, (.fields #[(.str (Str.ofString "_law_led") 558), (.str (Str.ofString "_law_led") 559), (.str (Str.ofString "/claim/cut.py") 560), (.int (139) 0), (.int (2) 0), (.int (0) 0), (.int (0) 0), (.int (3) 0), (.ref 286), (.bool true), (.int (181) 0), (.ref 287), .none, (.ref 288), (.ref 289), (.ref 290), (.int (565) 0), (.int (139) 0), (.str (Str.ofString "/claim/cut.py") 566)]), #[]⟩) ::
      (n292, ⟨(.type "function"), none, (.func ⟨(Str.ofString "_law_led"), (Str.ofString "_law_led"), argsOf (topS 45), .stmts (bodyOf (topS 45)), scopeOf (topS 45), 3, [], .none, .none, .none, (.str (Str.ofString "law_pc0194_01") 494), none, (.ref 291), .none, 0⟩), #[]⟩) ::
      (n293, ⟨(.type "tuple"), none, (.seq #[] 0), #[]⟩) ::
      (n296, ⟨(.type "code"), none, (.fields #[(.str (Str.ofString "_law_pair_right") 568), (.str (Str.ofString "_law_pair_right") 569), (.str (Str.ofString "/claim/cut.py") 570), (.int (142) 0), (.int (2) 0), (.int (0) 0), (.int (0) 0), (.int (3) 0), (.ref 293), (.bool true), (.int (181) 0), (.ref 294), .none, .none, .none, (.ref 295), (.int (571) 0), (.int (142) 0), (.str (Str.ofString "/claim/cut.py") 572)]), #[]⟩) ::
      (n297, ⟨(.type "function"), none, (.func ⟨(Str.ofString "_law_pair_right"), (Str.ofString "_law_pair_right"), argsOf (topS 46), .stmts (bodyOf (topS 46)), scopeOf (topS 46), 3, [], .none, .none, .none, (.str (Str.ofString "law_pc0194_01") 494), none, (.ref 296), .none, 0⟩), #[]⟩) ::
      (n298, ⟨(.type "tuple"), none, (.seq #[] 0), #[]⟩) ::
      (n300, ⟨(.type "tuple"), none, (.seq #[(.str (Str.ofString "value") 577), (.str (Str.ofString "kind") 578), (.str (Str.ofString "number") 579), (.str (Str.ofString "low") 580), (.str (Str.ofString "high") 581), (.str (Str.ofString "due") 582)] 0), #[]⟩) ::
      (n301, ⟨(.type "tuple"), none, (.seq #[(.str (Str.ofString "value") 583), (.str (Str.ofString "kind") 584)] 0), #[]⟩) ::
      (n303, ⟨(.type "code"), none, (.fields #[(.str (Str.ofString "_law_single_right") 574), (.str (Str.ofString "_law_single_right") 575), (.str (Str.ofString "/claim/cut.py") 576), (.int (159) 0), (.int (2) 0), (.int (0) 0), (.int (0) 0), (.int (3) 0), (.ref 298), (.bool true), (.int (181) 0), (.ref 299), .none, (.ref 300), (.ref 301), (.ref 302), (.int (585) 0), (.int (159) 0), (.str (Str.ofString "/claim/cut.py") 586)]), #[]⟩) ::
      (n304, ⟨(.type "function"), none, (.func ⟨(Str.ofString "_law_single_right"), (Str.ofString "_law_single_right"), argsOf (topS 47), .stmts (bodyOf (topS 47)), scopeOf (topS 47), 3, [], .none, .none, .none, (.str (Str.ofString "law_pc0194_01") 494), none, (.ref 303), .none, 0⟩), #[]⟩) ::
      (n305, ⟨(.type "tuple"), none, (.seq #[] 0), #[]⟩) ::
      (n308, ⟨(.type "code"), none, (.fields #[(.str (Str.ofString "law") 588), (.str (Str.ofString "law") 589), (.str (Str.ofString "/claim/cut.py") 590), (.int (164) 0), (.int (1) 0), (.int (0) 0), (.int (0) 0), (.int (3) 0), (.ref 305), (.bool true), (.int (181) 0), (.ref 306), .none, .none, .none, (.ref 307), (.int (591) 0), (.int (164) 0), (.str (Str.ofString "/claim/cut.py") 592)]), #[]⟩) ::
      (n309, ⟨(.type "function"), none, (.func ⟨(Str.ofString "law"), (Str.ofString "law"), argsOf (topS 48), .stmts (bodyOf (topS 48)), scopeOf (topS 48), 3, [], .none, .none, .none, (.str (Str.ofString "law_pc0194_01") 494), none, (.ref 308), .none, 0⟩), #[]⟩) :: []) → Frag) ?l ?h
    case f => exact fun l _ => l
    case' l => apply (fun (x : List (Nat × Obj)) => x)
    case h =>
      conv in (occs := *) argsOf _ => all_goals whnf
      conv in (occs := *) bodyOf _ => all_goals whnf
      conv in (occs := *) scopeOf _ => all_goals whnf
      exact ⟨rfl⟩
/-- the addresses of that part -/
def asF : List Addr := [2, 3, 15, 22, 23, 25, 26, 28, 29, 30, 31, 32, 33, 36, 43, 45, 46, 48, 49, 50, 51, 52, 55, 57, 58, 60, 61, 62, 64, 65, 67, 68, 69, 71, 72, 74, 75, 76, 78, 79, 81, 82, 83, 85, 86, 88, 89, 90, 91, 93, 94, 96, 97, 98, 100, 101, 103, 104, 105, 107, 108, 110, 111, 112, 114, 115, 117, 118, 119, 121, 122, 124, 125, 126, 128, 129, 131, 132, 133, 135, 136, 138, 139, 140, 142, 143, 145, 146, 147, 149, 150, 152, 153, 154, 156, 157, 159, 160, 161, 163, 164, 166, 167, 168, 170, 171, 173, 174, 175, 177, 178, 180, 181, 182, 184, 185, 187, 188, 189, 191, 192, 194, 195, 196, 198, 199, 201, 202, 203, 205, 206, 208, 209, 210, 212, 213, 215, 216, 217, 219, 220, 222, 223, 224, 226, 227, 229, 230, 231, 233, 234, 236, 237, 238, 240, 241, 243, 244, 245, 246, 248, 249, 251, 252, 253, 255, 256, 258, 259, 260, 263, 264, 265, 267, 268, 270, 271, 272, 274, 275, 277, 278, 279, 281, 282, 284, 285, 286, 288, 289, 291, 292, 293, 296, 297, 298, 300, 301, 303, 304, 305, 308, 309]
/-- the statements of the text that its view holds: all but the five stores of the file's name -/
def keepIx : List Nat := [1, 2, 4, 5, 6, 7, 8, 10, 11, 12, 13, 14, 15, 16, 17, 18, 19, 20, 21, 22, 24, 25, 26, 27, 28, 29, 30, 31, 32, 33, 34, 35, 36, 38, 39, 40, 41, 42, 43, 44, 45, 46, 47, 48]
noncomputable def qv : Program := view pg keepIx
abbrev lo3 : List Str := [Str.ofString "RowsError", Str.ofString "WIDTHS", Str.ofString "_law_row"]
noncomputable abbrev Xt3 : Shared → Bool := fun s => xlAt qv [] s && recOk (RowW.records PySem.Challenge.rw_pc0194_01.row.toRowW) s
theorem asF_is (P : Params) : asF = (KF P).map (·.1) := by kernel_rfl
noncomputable abbrev HK : Hook := kmHook KF asF asF_is [299, 294]
noncomputable abbrev s00 (w : World) (os : OsState) : Shared := ⟨boot_heap w.params, Array.mk [], boot_drawn, boot_toks, os⟩
/-- the entries of the text's own table, in the order in which its statements make them -/
noncomputable def dA (P : Params) (x : Str) (t : Tok) (tl : List DictEntry) : List DictEntry :=
    ⟨PyData.keyHash P (Str.ofString "__name__"), (.str (Str.ofString "__name__") 165), .str x t⟩ ::
    ⟨PyData.keyHash P (Str.ofString "__doc__"), (.str (Str.ofString "__doc__") 166), .none⟩ ::
    ⟨PyData.keyHash P (Str.ofString "__package__"), (.str (Str.ofString "__package__") 167), .none⟩ ::
    ⟨PyData.keyHash P (Str.ofString "__loader__"), (.str (Str.ofString "__loader__") 168), (.builtin "__main__.__loader__#opaque")⟩ ::
    ⟨PyData.keyHash P (Str.ofString "__spec__"), (.str (Str.ofString "__spec__") 169), .none⟩ ::
    ⟨PyData.keyHash P (Str.ofString "__annotations__"), (.str (Str.ofString "__annotations__") 170), (.ref 6)⟩ ::
    ⟨PyData.keyHash P (Str.ofString "__builtins__"), (.str (Str.ofString "__builtins__") 171), (.ref 4)⟩ ::
    ⟨PyData.keyHash P (Str.ofString "__file__"), (.str (Str.ofString "__file__") 173), (.str (Str.ofString "/claim/cut.py") 172)⟩ ::
    ⟨PyData.keyHash P (Str.ofString "__cached__"), (.str (Str.ofString "__cached__") 174), .none⟩ :: tl
noncomputable def dB (P : Params) (tl : List DictEntry) : List DictEntry :=
    ⟨PyData.keyHash P (Str.ofString "RowsError"), (.str (Str.ofString "RowsError") 219), (.ref 32)⟩ ::
    ⟨PyData.keyHash P (Str.ofString "Thrown"), (.str (Str.ofString "Thrown") 244), (.ref 52)⟩ :: tl
noncomputable def dC (P : Params) (tl : List DictEntry) : List DictEntry :=
    ⟨PyData.keyHash P (Str.ofString "text_value"), (.str (Str.ofString "text_value") 253), (.ref 61)⟩ ::
    ⟨PyData.keyHash P (Str.ofString "error_kind"), (.str (Str.ofString "error_kind") 260), (.ref 68)⟩ ::
    ⟨PyData.keyHash P (Str.ofString "error_value"), (.str (Str.ofString "error_value") 268), (.ref 75)⟩ ::
    ⟨PyData.keyHash P (Str.ofString "thrown"), (.str (Str.ofString "thrown") 276), (.ref 82)⟩ ::
    ⟨PyData.keyHash P (Str.ofString "thrown_text"), (.str (Str.ofString "thrown_text") 284), (.ref 89)⟩ :: tl
noncomputable def dD (P : Params) (tl : List DictEntry) : List DictEntry :=
    ⟨PyData.keyHash P (Str.ofString "WIDTHS"), (.str (Str.ofString "WIDTHS") 311), (.ref 90)⟩ :: tl
noncomputable def dE (P : Params) (tl : List DictEntry) : List DictEntry :=
    ⟨PyData.keyHash P (Str.ofString "BIG"), (.str (Str.ofString "BIG") 313), (.str (Str.ofString "BigInt") 312)⟩ ::
    ⟨PyData.keyHash P (Str.ofString "MOST_BITS"), (.str (Str.ofString "MOST_BITS") 315), (.int (4000) 314)⟩ ::
    ⟨PyData.keyHash P (Str.ofString "is_number_kind"), (.str (Str.ofString "is_number_kind") 322), (.ref 97)⟩ ::
    ⟨PyData.keyHash P (Str.ofString "bits_of"), (.str (Str.ofString "bits_of") 329), (.ref 104)⟩ ::
    ⟨PyData.keyHash P (Str.ofString "is_signed"), (.str (Str.ofString "is_signed") 336), (.ref 111)⟩ ::
    ⟨PyData.keyHash P (Str.ofString "least"), (.str (Str.ofString "least") 343), (.ref 118)⟩ ::
    ⟨PyData.keyHash P (Str.ofString "greatest"), (.str (Str.ofString "greatest") 350), (.ref 125)⟩ ::
    ⟨PyData.keyHash P (Str.ofString "fits"), (.str (Str.ofString "fits") 358), (.ref 132)⟩ ::
    ⟨PyData.keyHash P (Str.ofString "bounded"), (.str (Str.ofString "bounded") 365), (.ref 139)⟩ ::
    ⟨PyData.keyHash P (Str.ofString "wrapped"), (.str (Str.ofString "wrapped") 375), (.ref 146)⟩ ::
    ⟨PyData.keyHash P (Str.ofString "kind_value"), (.str (Str.ofString "kind_value") 382), (.ref 153)⟩ ::
    ⟨PyData.keyHash P (Str.ofString "converted"), (.str (Str.ofString "converted") 391), (.ref 160)⟩ ::
    ⟨PyData.keyHash P (Str.ofString "BOOL"), (.str (Str.ofString "BOOL") 395), (.str (Str.ofString "Bool") 394)⟩ ::
    ⟨PyData.keyHash P (Str.ofString "is_promoted"), (.str (Str.ofString "is_promoted") 402), (.ref 167)⟩ ::
    ⟨PyData.keyHash P (Str.ofString "rank_of"), (.str (Str.ofString "rank_of") 409), (.ref 174)⟩ ::
    ⟨PyData.keyHash P (Str.ofString "promoted"), (.str (Str.ofString "promoted") 417), (.ref 181)⟩ ::
    ⟨PyData.keyHash P (Str.ofString "promoted_all"), (.str (Str.ofString "promoted_all") 426), (.ref 188)⟩ :: tl
noncomputable def dF (P : Params) : List DictEntry :=
    ⟨PyData.keyHash P (Str.ofString "number_kind"), (.str (Str.ofString "number_kind") 433), (.ref 195)⟩ ::
    ⟨PyData.keyHash P (Str.ofString "plain_number"), (.str (Str.ofString "plain_number") 440), (.ref 202)⟩ ::
    ⟨PyData.keyHash P (Str.ofString "number_value"), (.str (Str.ofString "number_value") 448), (.ref 209)⟩ ::
    ⟨PyData.keyHash P (Str.ofString "converted_to"), (.str (Str.ofString "converted_to") 457), (.ref 216)⟩ ::
    ⟨PyData.keyHash P (Str.ofString "led_to"), (.str (Str.ofString "led_to") 465), (.ref 223)⟩ ::
    ⟨PyData.keyHash P (Str.ofString "converted_both"), (.str (Str.ofString "converted_both") 474), (.ref 230)⟩ ::
    ⟨PyData.keyHash P (Str.ofString "led_both"), (.str (Str.ofString "led_both") 483), (.ref 237)⟩ ::
    ⟨PyData.keyHash P (Str.ofString "order_of"), (.str (Str.ofString "order_of") 493), (.ref 244)⟩ ::
    ⟨PyData.keyHash P (Str.ofString "_law_row"), (.str (Str.ofString "_law_row") 506), (.ref 245)⟩ ::
    ⟨PyData.keyHash P (Str.ofString "_law_deep"), (.str (Str.ofString "_law_deep") 515), (.ref 252)⟩ ::
    ⟨PyData.keyHash P (Str.ofString "_law_next"), (.str (Str.ofString "_law_next") 524), (.ref 259)⟩ ::
    ⟨PyData.keyHash P (Str.ofString "_law_bounds"), (.str (Str.ofString "_law_bounds") 530), (.ref 264)⟩ ::
    ⟨PyData.keyHash P (Str.ofString "_law_value"), (.str (Str.ofString "_law_value") 541), (.ref 271)⟩ ::
    ⟨PyData.keyHash P (Str.ofString "_law_seen"), (.str (Str.ofString "_law_seen") 549), (.ref 278)⟩ ::
    ⟨PyData.keyHash P (Str.ofString "_law_as"), (.str (Str.ofString "_law_as") 557), (.ref 285)⟩ ::
    ⟨PyData.keyHash P (Str.ofString "_law_led"), (.str (Str.ofString "_law_led") 567), (.ref 292)⟩ ::
    ⟨PyData.keyHash P (Str.ofString "_law_pair_right"), (.str (Str.ofString "_law_pair_right") 573), (.ref 297)⟩ ::
    ⟨PyData.keyHash P (Str.ofString "_law_single_right"), (.str (Str.ofString "_law_single_right") 587), (.ref 304)⟩ ::
    ⟨PyData.keyHash P (Str.ofString "law"), (.str (Str.ofString "law") 593), (.ref 309)⟩ :: []
def fB (tl : List Value) : List Value :=
    (.int (2) 0) :: (.int (0) 0) :: (.ref 20) :: (.int (8) 0) :: (.int (0) 0) :: (.ref 41) :: tl
def fC (tl : List Value) : List Value :=
    (.int (14) 0) :: (.int (0) 0) :: (.ref 60) :: (.int (16) 0) :: (.int (0) 0) :: (.ref 67) :: (.int (18) 0) :: (.int (0) 0) :: (.ref 74) :: (.int (20) 0) :: (.int (0) 0) :: (.ref 81) :: (.int (22) 0) :: (.int (0) 0) :: (.ref 88) :: tl
def fE (tl : List Value) : List Value :=
    (.int (28) 0) :: (.int (0) 0) :: (.ref 96) :: (.int (30) 0) :: (.int (0) 0) :: (.ref 103) :: (.int (32) 0) :: (.int (0) 0) :: (.ref 110) :: (.int (34) 0) :: (.int (0) 0) :: (.ref 117) :: (.int (38) 0) :: (.int (0) 0) :: (.ref 124) :: (.int (42) 0) :: (.int (0) 0) :: (.ref 131) :: (.int (44) 0) :: (.int (0) 0) :: (.ref 138) :: (.int (48) 0) :: (.int (0) 0) :: (.ref 145) :: (.int (54) 0) :: (.int (0) 0) :: (.ref 152) :: (.int (56) 0) :: (.int (0) 0) :: (.ref 159) :: (.int (64) 0) :: (.int (0) 0) :: (.ref 166) :: (.int (66) 0) :: (.int (0) 0) :: (.ref 173) :: (.int (70) 0) :: (.int (0) 0) :: (.ref 180) :: (.int (74) 0) :: (.int (0) 0) :: (.ref 187) :: tl
def fF : List Value :=
    (.int (79) 0) :: (.int (0) 0) :: (.ref 194) :: (.int (83) 0) :: (.int (0) 0) :: (.ref 201) :: (.int (85) 0) :: (.int (0) 0) :: (.ref 208) :: (.int (87) 0) :: (.int (0) 0) :: (.ref 215) :: (.int (94) 0) :: (.int (0) 0) :: (.ref 222) :: (.int (96) 0) :: (.int (0) 0) :: (.ref 229) :: (.int (99) 0) :: (.int (0) 0) :: (.ref 236) :: (.int (104) 0) :: (.int (0) 0) :: (.ref 243) :: (.int (109) 0) :: (.int (0) 0) :: (.ref 251) :: (.int (113) 0) :: (.int (0) 0) :: (.ref 258) :: (.int (120) 0) :: (.int (0) 0) :: (.ref 263) :: (.int (127) 0) :: (.int (0) 0) :: (.ref 270) :: (.int (132) 0) :: (.int (0) 0) :: (.ref 277) :: (.int (137) 0) :: (.int (0) 0) :: (.ref 284) :: (.int (139) 0) :: (.int (0) 0) :: (.ref 291) :: (.int (142) 0) :: (.int (0) 0) :: (.ref 296) :: (.int (159) 0) :: (.int (0) 0) :: (.ref 303) :: (.int (164) 0) :: (.int (0) 0) :: (.ref 308) :: []
noncomputable abbrev o2 (P : Params) : Obj := ⟨.none, none, (.dict #[⟨PyData.keyHash P (Str.ofString "type.__subclasses__.Exception.0"), (.str (Str.ofString "type.__subclasses__.Exception.0") 216), (.int (32) 0)⟩, ⟨PyData.keyHash P (Str.ofString "type.__subclasses__.Exception.n"), (.str (Str.ofString "type.__subclasses__.Exception.n") 217), (.int (1) 0)⟩] 2), #[]⟩
abbrev o3 (l : List DictEntry) (n : Nat) : Obj := ⟨(.type "dict"), none, (.dict ⟨l⟩ n), #[]⟩
abbrev o12 (l : List Value) : Obj := ⟨.none, none, (.fields ⟨l⟩), #[]⟩
noncomputable def hA (P : Params) (o2 o3 o12 : Obj) (tl : List Obj) : List Obj :=
    ⟨(.type "dict"), none, (.dict (List.toArray (⟨PyData.keyHash P (Str.ofString "__name__"), (.str (Str.ofString "__name__") 1), (.str (Str.ofString "builtins") 160)⟩ :: ⟨PyData.keyHash P (Str.ofString "__doc__"), (.str (Str.ofString "__doc__") 2), (.builtin "builtins.__doc__:str#opaque")⟩ :: ⟨PyData.keyHash P (Str.ofString "__package__"), (.str (Str.ofString "__package__") 3), (.builtin "builtins.__package__:str#opaque")⟩ :: ⟨PyData.keyHash P (Str.ofString "__loader__"), (.str (Str.ofString "__loader__") 4), (.builtin "builtins.__loader__:shared#opaque")⟩ :: ⟨PyData.keyHash P (Str.ofString "__spec__"), (.str (Str.ofString "__spec__") 5), (.builtin "builtins.__spec__#opaque")⟩ :: ⟨PyData.keyHash P (Str.ofString "__build_class__"), (.str (Str.ofString "__build_class__") 6), (.builtin "__build_class__")⟩ :: ⟨PyData.keyHash P (Str.ofString "__import__"), (.str (Str.ofString "__import__") 7), (.builtin "__import__")⟩ :: ⟨PyData.keyHash P (Str.ofString "abs"), (.str (Str.ofString "abs") 8), (.builtin "abs")⟩ :: ⟨PyData.keyHash P (Str.ofString "all"), (.str (Str.ofString "all") 9), (.builtin "all")⟩ :: ⟨PyData.keyHash P (Str.ofString "any"), (.str (Str.ofString "any") 10), (.builtin "any")⟩ :: ⟨PyData.keyHash P (Str.ofString "ascii"), (.str (Str.ofString "ascii") 11), (.builtin "ascii")⟩ :: ⟨PyData.keyHash P (Str.ofString "bin"), (.str (Str.ofString "bin") 12), (.builtin "bin")⟩ :: ⟨PyData.keyHash P (Str.ofString "breakpoint"), (.str (Str.ofString "breakpoint") 13), (.builtin "breakpoint")⟩ :: ⟨PyData.keyHash P (Str.ofString "callable"), (.str (Str.ofString "callable") 14), (.builtin "callable")⟩ :: ⟨PyData.keyHash P (Str.ofString "chr"), (.str (Str.ofString "chr") 15), (.builtin "chr")⟩ :: ⟨PyData.keyHash P (Str.ofString "compile"), (.str (Str.ofString "compile") 16), (.builtin "compile")⟩ :: ⟨PyData.keyHash P (Str.ofString "delattr"), (.str (Str.ofString "delattr") 17), (.builtin "delattr")⟩ :: ⟨PyData.keyHash P (Str.ofString "dir"), (.str (Str.ofString "dir") 18), (.builtin "dir")⟩ :: ⟨PyData.keyHash P (Str.ofString "divmod"), (.str (Str.ofString "divmod") 19), (.builtin "divmod")⟩ :: ⟨PyData.keyHash P (Str.ofString "eval"), (.str (Str.ofString "eval") 20), (.builtin "eval")⟩ :: ⟨PyData.keyHash P (Str.ofString "exec"), (.str (Str.ofString "exec") 21), (.builtin "exec")⟩ :: ⟨PyData.keyHash P (Str.ofString "format"), (.str (Str.ofString "format") 22), (.builtin "format")⟩ :: ⟨PyData.keyHash P (Str.ofString "getattr"), (.str (Str.ofString "getattr") 23), (.builtin "getattr")⟩ :: ⟨PyData.keyHash P (Str.ofString "globals"), (.str (Str.ofString "globals") 24), (.builtin "globals")⟩ :: ⟨PyData.keyHash P (Str.ofString "hasattr"), (.str (Str.ofString "hasattr") 25), (.builtin "hasattr")⟩ :: ⟨PyData.keyHash P (Str.ofString "hash"), (.str (Str.ofString "hash") 26), (.builtin "hash")⟩ :: ⟨PyData.keyHash P (Str.ofString "hex"), (.str (Str.ofString "hex") 27), (.builtin "hex")⟩ :: ⟨PyData.keyHash P (Str.ofString "id"), (.str (Str.ofString "id") 28), (.builtin "id")⟩ :: ⟨PyData.keyHash P (Str.ofString "input"), (.str (Str.ofString "input") 29), (.builtin "input")⟩ :: ⟨PyData.keyHash P (Str.ofString "isinstance"), (.str (Str.ofString "isinstance") 30), (.builtin "isinstance")⟩ :: ⟨PyData.keyHash P (Str.ofString "issubclass"), (.str (Str.ofString "issubclass") 31), (.builtin "issubclass")⟩ :: ⟨PyData.keyHash P (Str.ofString "iter"), (.str (Str.ofString "iter") 32), (.builtin "iter")⟩ :: ⟨PyData.keyHash P (Str.ofString "aiter"), (.str (Str.ofString "aiter") 33), (.builtin "aiter")⟩ :: ⟨PyData.keyHash P (Str.ofString "len"), (.str (Str.ofString "len") 34), (.builtin "len")⟩ :: ⟨PyData.keyHash P (Str.ofString "locals"), (.str (Str.ofString "locals") 35), (.builtin "locals")⟩ :: ⟨PyData.keyHash P (Str.ofString "max"), (.str (Str.ofString "max") 36), (.builtin "max")⟩ :: ⟨PyData.keyHash P (Str.ofString "min"), (.str (Str.ofString "min") 37), (.builtin "min")⟩ :: ⟨PyData.keyHash P (Str.ofString "next"), (.str (Str.ofString "next") 38), (.builtin "next")⟩ :: ⟨PyData.keyHash P (Str.ofString "anext"), (.str (Str.ofString "anext") 39), (.builtin "anext")⟩ :: ⟨PyData.keyHash P (Str.ofString "oct"), (.str (Str.ofString "oct") 40), (.builtin "oct")⟩ :: ⟨PyData.keyHash P (Str.ofString "ord"), (.str (Str.ofString "ord") 41), (.builtin "ord")⟩ :: ⟨PyData.keyHash P (Str.ofString "pow"), (.str (Str.ofString "pow") 42), (.builtin "pow")⟩ :: ⟨PyData.keyHash P (Str.ofString "print"), (.str (Str.ofString "print") 43), (.builtin "print")⟩ :: ⟨PyData.keyHash P (Str.ofString "repr"), (.str (Str.ofString "repr") 44), (.builtin "repr")⟩ :: ⟨PyData.keyHash P (Str.ofString "round"), (.str (Str.ofString "round") 45), (.builtin "round")⟩ :: ⟨PyData.keyHash P (Str.ofString "setattr"), (.str (Str.ofString "setattr") 46), (.builtin "setattr")⟩ :: ⟨PyData.keyHash P (Str.ofString "sorted"), (.str (Str.ofString "sorted") 47), (.builtin "sorted")⟩ :: ⟨PyData.keyHash P (Str.ofString "sum"), (.str (Str.ofString "sum") 48), (.builtin "sum")⟩ :: ⟨PyData.keyHash P (Str.ofString "vars"), (.str (Str.ofString "vars") 49), (.builtin "vars")⟩ :: ⟨PyData.keyHash P (Str.ofString "None"), (.str (Str.ofString "None") 50), .none⟩ :: ⟨PyData.keyHash P (Str.ofString "Ellipsis"), (.str (Str.ofString "Ellipsis") 51), .ellipsis⟩ :: ⟨PyData.keyHash P (Str.ofString "NotImplemented"), (.str (Str.ofString "NotImplemented") 52), .notImplemented⟩ :: ⟨PyData.keyHash P (Str.ofString "False"), (.str (Str.ofString "False") 53), (.bool false)⟩ :: ⟨PyData.keyHash P (Str.ofString "True"), (.str (Str.ofString "True") 54), (.bool true)⟩ :: ⟨PyData.keyHash P (Str.ofString "bool"), (.str (Str.ofString "bool") 55), (.type "bool")⟩ :: ⟨PyData.keyHash P (Str.ofString "memoryview"), (.str (Str.ofString "memoryview") 56), (.type "memoryview")⟩ :: ⟨PyData.keyHash P (Str.ofString "bytearray"), (.str (Str.ofString "bytearray") 57), (.type "bytearray")⟩ :: ⟨PyData.keyHash P (Str.ofString "bytes"), (.str (Str.ofString "bytes") 58), (.type "bytes")⟩ :: ⟨PyData.keyHash P (Str.ofString "classmethod"), (.str (Str.ofString "classmethod") 59), (.type "classmethod")⟩ :: ⟨PyData.keyHash P (Str.ofString "complex"), (.str (Str.ofString "complex") 60), (.type "complex")⟩ :: ⟨PyData.keyHash P (Str.ofString "dict"), (.str (Str.ofString "dict") 61), (.type "dict")⟩ :: ⟨PyData.keyHash P (Str.ofString "enumerate"), (.str (Str.ofString "enumerate") 62), (.type "enumerate")⟩ :: ⟨PyData.keyHash P (Str.ofString "filter"), (.str (Str.ofString "filter") 63), (.type "filter")⟩ :: ⟨PyData.keyHash P (Str.ofString "float"), (.str (Str.ofString "float") 64), (.type "float")⟩ :: ⟨PyData.keyHash P (Str.ofString "frozenset"), (.str (Str.ofString "frozenset") 65), (.type "frozenset")⟩ :: ⟨PyData.keyHash P (Str.ofString "property"), (.str (Str.ofString "property") 66), (.type "property")⟩ :: ⟨PyData.keyHash P (Str.ofString "int"), (.str (Str.ofString "int") 67), (.type "int")⟩ :: ⟨PyData.keyHash P (Str.ofString "list"), (.str (Str.ofString "list") 68), (.type "list")⟩ :: ⟨PyData.keyHash P (Str.ofString "map"), (.str (Str.ofString "map") 69), (.type "map")⟩ :: ⟨PyData.keyHash P (Str.ofString "object"), (.str (Str.ofString "object") 70), (.type "object")⟩ :: ⟨PyData.keyHash P (Str.ofString "range"), (.str (Str.ofString "range") 71), (.type "range")⟩ :: ⟨PyData.keyHash P (Str.ofString "reversed"), (.str (Str.ofString "reversed") 72), (.type "reversed")⟩ :: ⟨PyData.keyHash P (Str.ofString "set"), (.str (Str.ofString "set") 73), (.type "set")⟩ :: ⟨PyData.keyHash P (Str.ofString "slice"), (.str (Str.ofString "slice") 74), (.type "slice")⟩ :: ⟨PyData.keyHash P (Str.ofString "staticmethod"), (.str (Str.ofString "staticmethod") 75), (.type "staticmethod")⟩ :: ⟨PyData.keyHash P (Str.ofString "str"), (.str (Str.ofString "str") 76), (.type "str")⟩ :: ⟨PyData.keyHash P (Str.ofString "super"), (.str (Str.ofString "super") 77), (.type "super")⟩ :: ⟨PyData.keyHash P (Str.ofString "tuple"), (.str (Str.ofString "tuple") 78), (.type "tuple")⟩ :: ⟨PyData.keyHash P (Str.ofString "type"), (.str (Str.ofString "type") 79), (.type "type")⟩ :: ⟨PyData.keyHash P (Str.ofString "zip"), (.str (Str.ofString "zip") 80), (.type "zip")⟩ :: ⟨PyData.keyHash P (Str.ofString "__debug__"), (.str (Str.ofString "__debug__") 81), (.bool true)⟩ :: ⟨PyData.keyHash P (Str.ofString "BaseException"), (.str (Str.ofString "BaseException") 82), (.type "BaseException")⟩ :: ⟨PyData.keyHash P (Str.ofString "BaseExceptionGroup"), (.str (Str.ofString "BaseExceptionGroup") 83), (.type "BaseExceptionGroup")⟩ :: ⟨PyData.keyHash P (Str.ofString "Exception"), (.str (Str.ofString "Exception") 84), (.type "Exception")⟩ :: ⟨PyData.keyHash P (Str.ofString "GeneratorExit"), (.str (Str.ofString "GeneratorExit") 85), (.type "GeneratorExit")⟩ :: ⟨PyData.keyHash P (Str.ofString "KeyboardInterrupt"), (.str (Str.ofString "KeyboardInterrupt") 86), (.type "KeyboardInterrupt")⟩ :: ⟨PyData.keyHash P (Str.ofString "SystemExit"), (.str (Str.ofString "SystemExit") 87), (.type "SystemExit")⟩ :: ⟨PyData.keyHash P (Str.ofString "ArithmeticError"), (.str (Str.ofString "ArithmeticError") 88), (.type "ArithmeticError")⟩ :: ⟨PyData.keyHash P (Str.ofString "AssertionError"), (.str (Str.ofString "AssertionError") 89), (.type "AssertionError")⟩ :: ⟨PyData.keyHash P (Str.ofString "AttributeError"), (.str (Str.ofString "AttributeError") 90), (.type "AttributeError")⟩ :: ⟨PyData.keyHash P (Str.ofString "BufferError"), (.str (Str.ofString "BufferError") 91), (.type "BufferError")⟩ :: ⟨PyData.keyHash P (Str.ofString "EOFError"), (.str (Str.ofString "EOFError") 92), (.type "EOFError")⟩ :: ⟨PyData.keyHash P (Str.ofString "ImportError"), (.str (Str.ofString "ImportError") 93), (.type "ImportError")⟩ :: ⟨PyData.keyHash P (Str.ofString "LookupError"), (.str (Str.ofString "LookupError") 94), (.type "LookupError")⟩ :: ⟨PyData.keyHash P (Str.ofString "MemoryError"), (.str (Str.ofString "MemoryError") 95), (.type "MemoryError")⟩ :: ⟨PyData.keyHash P (Str.ofString "NameError"), (.str (Str.ofString "NameError") 96), (.type "NameError")⟩ :: ⟨PyData.keyHash P (Str.ofString "OSError"), (.str (Str.ofString "OSError") 97), (.type "OSError")⟩ :: ⟨PyData.keyHash P (Str.ofString "ReferenceError"), (.str (Str.ofString "ReferenceError") 98), (.type "ReferenceError")⟩ :: ⟨PyData.keyHash P (Str.ofString "RuntimeError"), (.str (Str.ofString "RuntimeError") 99), (.type "RuntimeError")⟩ :: ⟨PyData.keyHash P (Str.ofString "StopAsyncIteration"), (.str (Str.ofString "StopAsyncIteration") 100), (.type "StopAsyncIteration")⟩ :: ⟨PyData.keyHash P (Str.ofString "StopIteration"), (.str (Str.ofString "StopIteration") 101), (.type "StopIteration")⟩ :: ⟨PyData.keyHash P (Str.ofString "SyntaxError"), (.str (Str.ofString "SyntaxError") 102), (.type "SyntaxError")⟩ :: ⟨PyData.keyHash P (Str.ofString "SystemError"), (.str (Str.ofString "SystemError") 103), (.type "SystemError")⟩ :: ⟨PyData.keyHash P (Str.ofString "TypeError"), (.str (Str.ofString "TypeError") 104), (.type "TypeError")⟩ :: ⟨PyData.keyHash P (Str.ofString "ValueError"), (.str (Str.ofString "ValueError") 105), (.type "ValueError")⟩ :: ⟨PyData.keyHash P (Str.ofString "Warning"), (.str (Str.ofString "Warning") 106), (.type "Warning")⟩ :: ⟨PyData.keyHash P (Str.ofString "FloatingPointError"), (.str (Str.ofString "FloatingPointError") 107), (.type "FloatingPointError")⟩ :: ⟨PyData.keyHash P (Str.ofString "OverflowError"), (.str (Str.ofString "OverflowError") 108), (.type "OverflowError")⟩ :: ⟨PyData.keyHash P (Str.ofString "ZeroDivisionError"), (.str (Str.ofString "ZeroDivisionError") 109), (.type "ZeroDivisionError")⟩ :: ⟨PyData.keyHash P (Str.ofString "BytesWarning"), (.str (Str.ofString "BytesWarning") 110), (.type "BytesWarning")⟩ :: ⟨PyData.keyHash P (Str.ofString "DeprecationWarning"), (.str (Str.ofString "DeprecationWarning") 111), (.type "DeprecationWarning")⟩ :: ⟨PyData.keyHash P (Str.ofString "EncodingWarning"), (.str (Str.ofString "EncodingWarning") 112), (.type "EncodingWarning")⟩ :: ⟨PyData.keyHash P (Str.ofString "FutureWarning"), (.str (Str.ofString "FutureWarning") 113), (.type "FutureWarning")⟩ :: ⟨PyData.keyHash P (Str.ofString "ImportWarning"), (.str (Str.ofString "ImportWarning") 114), (.type "ImportWarning")⟩ :: ⟨PyData.keyHash P (Str.ofString "PendingDeprecationWarning"), (.str (Str.ofString "PendingDeprecationWarning") 115), (.type "PendingDeprecationWarning")⟩ :: ⟨PyData.keyHash P (Str.ofString "ResourceWarning"), (.str (Str.ofString "ResourceWarning") 116), (.type "ResourceWarning")⟩ :: ⟨PyData.keyHash P (Str.ofString "RuntimeWarning"), (.str (Str.ofString "RuntimeWarning") 117), (.type "RuntimeWarning")⟩ :: ⟨PyData.keyHash P (Str.ofString "SyntaxWarning"), (.str (Str.ofString "SyntaxWarning") 118), (.type "SyntaxWarning")⟩ :: ⟨PyData.keyHash P (Str.ofString "UnicodeWarning"), (.str (Str.ofString "UnicodeWarning") 119), (.type "UnicodeWarning")⟩ :: ⟨PyData.keyHash P (Str.ofString "UserWarning"), (.str (Str.ofString "UserWarning") 120), (.type "UserWarning")⟩ :: ⟨PyData.keyHash P (Str.ofString "BlockingIOError"), (.str (Str.ofString "BlockingIOError") 121), (.type "BlockingIOError")⟩ :: ⟨PyData.keyHash P (Str.ofString "ChildProcessError"), (.str (Str.ofString "ChildProcessError") 122), (.type "ChildProcessError")⟩ :: ⟨PyData.keyHash P (Str.ofString "ConnectionError"), (.str (Str.ofString "ConnectionError") 123), (.type "ConnectionError")⟩ :: ⟨PyData.keyHash P (Str.ofString "FileExistsError"), (.str (Str.ofString "FileExistsError") 124), (.type "FileExistsError")⟩ :: ⟨PyData.keyHash P (Str.ofString "FileNotFoundError"), (.str (Str.ofString "FileNotFoundError") 125), (.type "FileNotFoundError")⟩ :: ⟨PyData.keyHash P (Str.ofString "InterruptedError"), (.str (Str.ofString "InterruptedError") 126), (.type "InterruptedError")⟩ :: ⟨PyData.keyHash P (Str.ofString "IsADirectoryError"), (.str (Str.ofString "IsADirectoryError") 127), (.type "IsADirectoryError")⟩ :: ⟨PyData.keyHash P (Str.ofString "NotADirectoryError"), (.str (Str.ofString "NotADirectoryError") 128), (.type "NotADirectoryError")⟩ :: ⟨PyData.keyHash P (Str.ofString "PermissionError"), (.str (Str.ofString "PermissionError") 129), (.type "PermissionError")⟩ :: ⟨PyData.keyHash P (Str.ofString "ProcessLookupError"), (.str (Str.ofString "ProcessLookupError") 130), (.type "ProcessLookupError")⟩ :: ⟨PyData.keyHash P (Str.ofString "TimeoutError"), (.str (Str.ofString "TimeoutError") 131), (.type "TimeoutError")⟩ :: ⟨PyData.keyHash P (Str.ofString "IndentationError"), (.str (Str.ofString "IndentationError") 132), (.type "IndentationError")⟩ :: ⟨PyData.keyHash P (Str.ofString "_IncompleteInputError"), (.str (Str.ofString "_IncompleteInputError") 133), (.type "_IncompleteInputError")⟩ :: ⟨PyData.keyHash P (Str.ofString "IndexError"), (.str (Str.ofString "IndexError") 134), (.type "IndexError")⟩ :: ⟨PyData.keyHash P (Str.ofString "KeyError"), (.str (Str.ofString "KeyError") 135), (.type "KeyError")⟩ :: ⟨PyData.keyHash P (Str.ofString "ModuleNotFoundError"), (.str (Str.ofString "ModuleNotFoundError") 136), (.type "ModuleNotFoundError")⟩ :: ⟨PyData.keyHash P (Str.ofString "NotImplementedError"), (.str (Str.ofString "NotImplementedError") 137), (.type "NotImplementedError")⟩ :: ⟨PyData.keyHash P (Str.ofString "PythonFinalizationError"), (.str (Str.ofString "PythonFinalizationError") 138), (.type "PythonFinalizationError")⟩ :: ⟨PyData.keyHash P (Str.ofString "RecursionError"), (.str (Str.ofString "RecursionError") 139), (.type "RecursionError")⟩ :: ⟨PyData.keyHash P (Str.ofString "UnboundLocalError"), (.str (Str.ofString "UnboundLocalError") 140), (.type "UnboundLocalError")⟩ :: ⟨PyData.keyHash P (Str.ofString "UnicodeError"), (.str (Str.ofString "UnicodeError") 141), (.type "UnicodeError")⟩ :: ⟨PyData.keyHash P (Str.ofString "BrokenPipeError"), (.str (Str.ofString "BrokenPipeError") 142), (.type "BrokenPipeError")⟩ :: ⟨PyData.keyHash P (Str.ofString "ConnectionAbortedError"), (.str (Str.ofString "ConnectionAbortedError") 143), (.type "ConnectionAbortedError")⟩ :: ⟨PyData.keyHash P (Str.ofString "ConnectionRefusedError"), (.str (Str.ofString "ConnectionRefusedError") 144), (.type "ConnectionRefusedError")⟩ :: ⟨PyData.keyHash P (Str.ofString "ConnectionResetError"), (.str (Str.ofString "ConnectionResetError") 145), (.type "ConnectionResetError")⟩ :: ⟨PyData.keyHash P (Str.ofString "TabError"), (.str (Str.ofString "TabError") 146), (.type "TabError")⟩ :: ⟨PyData.keyHash P (Str.ofString "UnicodeDecodeError"), (.str (Str.ofString "UnicodeDecodeError") 147), (.type "UnicodeDecodeError")⟩ :: ⟨PyData.keyHash P (Str.ofString "UnicodeEncodeError"), (.str (Str.ofString "UnicodeEncodeError") 148), (.type "UnicodeEncodeError")⟩ :: ⟨PyData.keyHash P (Str.ofString "UnicodeTranslateError"), (.str (Str.ofString "UnicodeTranslateError") 149), (.type "UnicodeTranslateError")⟩ :: ⟨PyData.keyHash P (Str.ofString "ExceptionGroup"), (.str (Str.ofString "ExceptionGroup") 150), (.type "ExceptionGroup")⟩ :: ⟨PyData.keyHash P (Str.ofString "EnvironmentError"), (.str (Str.ofString "EnvironmentError") 151), (.type "OSError")⟩ :: ⟨PyData.keyHash P (Str.ofString "IOError"), (.str (Str.ofString "IOError") 152), (.type "OSError")⟩ :: ⟨PyData.keyHash P (Str.ofString "open"), (.str (Str.ofString "open") 153), (.builtin "open")⟩ :: ⟨PyData.keyHash P (Str.ofString "quit"), (.str (Str.ofString "quit") 154), (.builtin "builtins.quit#opaque")⟩ :: ⟨PyData.keyHash P (Str.ofString "exit"), (.str (Str.ofString "exit") 155), (.builtin "builtins.exit#opaque")⟩ :: ⟨PyData.keyHash P (Str.ofString "copyright"), (.str (Str.ofString "copyright") 156), (.builtin "builtins.copyright#opaque")⟩ :: ⟨PyData.keyHash P (Str.ofString "credits"), (.str (Str.ofString "credits") 157), (.builtin "builtins.credits#opaque")⟩ :: ⟨PyData.keyHash P (Str.ofString "license"), (.str (Str.ofString "license") 158), (.builtin "builtins.license#opaque")⟩ :: ⟨PyData.keyHash P (Str.ofString "help"), (.str (Str.ofString "help") 159), (.builtin "builtins.help#opaque")⟩ :: [])) 159), #[]⟩ ::
    ⟨(.type "dict"), none, (.dict #[⟨PyData.keyHash P (Str.ofString "builtins"), (.str (Str.ofString "builtins") 162), (.ref 4)⟩, ⟨PyData.keyHash P (Str.ofString "__main__"), (.str (Str.ofString "__main__") 163), (.ref 5)⟩] 2), #[]⟩ ::
    o2 ::
    o3 ::
    ⟨(.type "module"), (some 0), .plain, #[]⟩ ::
    ⟨(.type "module"), (some 3), .plain, #[]⟩ ::
    ⟨(.type "dict"), none, (.dict #[] 0), #[]⟩ ::
    ⟨(.type "tuple"), none, (.seq #[] 0), #[]⟩ ::
    ⟨.none, none, (.fields #[]), #[]⟩ ::
    ⟨(.type "code"), none, (.fields #[(.str (Str.ofString "<module>") 176), (.str (Str.ofString "<module>") 177), (.str (Str.ofString "/claim/cut.py") 178), (.int (1) 0), (.int (0) 0), (.int (0) 0), (.int (0) 0), (.int (0) 0), (.ref 7), (.bool false), (.int (175) 0), (.ref 8), .none, .none, .none, .none, (.int (179) 0), (.int (1) 0), (.str (Str.ofString "/claim/cut.py") 180)]), #[]⟩ ::
    ⟨(.type "frame"), none, .plain, #[(some (.ref 9)), (some (.ref 3)), (some (.ref 3)), none, (some (.str (Str.ofString "__main__") 164)), none, (some (.ref 0))]⟩ ::
    ⟨(.type "tuple"), none, (.seq #[] 0), #[]⟩ ::
    o12 ::
    ⟨(.type "code"), none, (.fields #[(.str (Str.ofString "<module>") 182), (.str (Str.ofString "<module>") 183), (.str (Str.ofString "/claim/cut.py") 184), (.int (1) 0), (.int (0) 0), (.int (0) 0), (.int (0) 0), (.int (0) 0), (.ref 11), (.bool false), (.int (181) 0), (.ref 12), .none, .none, .none, .none, (.int (185) 0), (.int (1) 0), (.str (Str.ofString "/claim/cut.py") 186)]), #[]⟩ ::
    ⟨(.type "frame"), none, .plain, #[(some (.ref 13)), (some (.ref 3)), (some (.ref 3)), none, (some (.str (Str.ofString "__main__") 164)), none, (some (.ref 0))]⟩ :: tl
noncomputable def hB (P : Params) (tl : List Obj) : List Obj :=
    ⟨(.type "tuple"), none, (.seq #[(.type "Exception")] 0), #[]⟩ ::
    ⟨(.type "builtin_function_or_method"), none, (.fields #[(.builtin "type.__prepare__"), (.type "type")]), #[]⟩ ::
    ⟨(.type "dict"), none, (.dict #[⟨PyData.keyHash P (Str.ofString "__module__"), (.str (Str.ofString "__module__") 196), (.str (Str.ofString "methodrows.errors") 187)⟩, ⟨PyData.keyHash P (Str.ofString "__qualname__"), (.str (Str.ofString "__qualname__") 198), (.str (Str.ofString "RowsError") 197)⟩, ⟨PyData.keyHash P (Str.ofString "__firstlineno__"), (.str (Str.ofString "__firstlineno__") 200), (.int (2) 199)⟩, ⟨PyData.keyHash P (Str.ofString "__init__"), (.str (Str.ofString "__init__") 209), (.ref 29)⟩, ⟨PyData.keyHash P (Str.ofString "__static_attributes__"), (.str (Str.ofString "__static_attributes__") 212), (.ref 30)⟩] 5), #[]⟩ ::
    ⟨(.type "tuple"), none, (.seq #[] 0), #[]⟩ ::
    ⟨.none, none, (.fields #[(.int (4) 0), (.int (4) 0), (.ref 28)]), #[]⟩ ::
    ⟨(.type "code"), none, (.fields #[(.str (Str.ofString "RowsError") 191), (.str (Str.ofString "RowsError") 192), (.str (Str.ofString "/claim/cut.py") 193), (.int (2) 0), (.int (0) 0), (.int (0) 0), (.int (0) 0), (.int (0) 0), (.ref 18), (.bool false), (.int (181) 0), (.ref 19), .none, .none, .none, .none, (.int (194) 0), (.int (2) 0), (.str (Str.ofString "/claim/cut.py") 195)]), #[]⟩ ::
    ⟨(.type "frame"), none, .plain, #[(some (.ref 20)), (some (.ref 3)), (some (.ref 17)), none, (some (.str (Str.ofString "methodrows.errors") 187)), none, (some (.ref 0))]⟩ ::
    ⟨(.type "tuple"), none, (.seq #[.none] 0), #[]⟩ ::
    ⟨(.type "tuple"), none, (.seq #[] 0), #[]⟩ ::
    ⟨.none, none, (.fields #[]), #[]⟩ ::
    ⟨(.type "tuple"), none, (.seq #[(.str (Str.ofString "self") 204), (.str (Str.ofString "message") 205), (.str (Str.ofString "spot") 206)] 0), #[]⟩ ::
    ⟨(.type "tuple"), none, (.seq #[] 0), #[]⟩ ::
    ⟨.none, none, (.func ⟨(Str.ofString "__init__"), (Str.ofString "RowsError.__init__"), argsOf (clsS 1 0), .stmts (bodyOf (clsS 1 0)), scopeOf (clsS 1 0), 0, [], .none, .none, .none, .none, none, .none, .none, 0⟩), #[]⟩ ::
    ⟨(.type "code"), none, (.fields #[(.str (Str.ofString "__init__") 201), (.str (Str.ofString "RowsError.__init__") 202), (.str (Str.ofString "/claim/cut.py") 203), (.int (4) 0), (.int (3) 0), (.int (0) 0), (.int (0) 0), (.int (3) 0), (.ref 23), (.bool true), (.int (181) 0), (.ref 24), .none, (.ref 25), (.ref 26), (.ref 27), (.int (207) 0), (.int (4) 0), (.str (Str.ofString "/claim/cut.py") 208)]), #[]⟩ ::
    ⟨(.type "function"), none, (.func ⟨(Str.ofString "__init__"), (Str.ofString "RowsError.__init__"), argsOf (clsS 1 0), .stmts (bodyOf (clsS 1 0)), scopeOf (clsS 1 0), 3, [], (.ref 22), .none, .none, (.str (Str.ofString "methodrows.errors") 187), none, (.ref 28), .none, 0⟩), #[]⟩ ::
    ⟨(.type "tuple"), none, (.seq #[(.str (Str.ofString "message") 210), (.str (Str.ofString "spot") 211)] 0), #[]⟩ ::
    ⟨(.type "dict"), none, (.dict #[⟨PyData.keyHash P (Str.ofString "__module__"), (.str (Str.ofString "__module__") 196), (.str (Str.ofString "methodrows.errors") 187)⟩, ⟨PyData.keyHash P (Str.ofString "__firstlineno__"), (.str (Str.ofString "__firstlineno__") 200), (.int (2) 199)⟩, ⟨PyData.keyHash P (Str.ofString "__init__"), (.str (Str.ofString "__init__") 209), (.ref 29)⟩, ⟨PyData.keyHash P (Str.ofString "__static_attributes__"), (.str (Str.ofString "__static_attributes__") 212), (.ref 30)⟩, ⟨PyData.keyHash P (Str.ofString "__weakref__"), (.str (Str.ofString "__weakref__") 214), (.ref 33)⟩, ⟨PyData.keyHash P (Str.ofString "__doc__"), (.str (Str.ofString "__doc__") 215), .none⟩] 3), #[]⟩ ::
    ⟨(.type "type"), none, (.cls ⟨(Str.ofString "RowsError"), [(.type "Exception")], [(.ref 32), (.type "Exception"), (.type "BaseException"), (.type "object")], 31, (Str.ofString "RowsError"), true, [], [(.ref 52)], false, none, false⟩), #[(some (.ref 15)), none, (some (.str (Str.ofString "RowsError") 189)), (some (.str (Str.ofString "RowsError") 197)), (some (.builtin "Exception.__new__")), (some (.bool true))]⟩ ::
    ⟨(.type "getset_descriptor"), none, (.fields #[(.str (Str.ofString "__weakref__") 213), (.ref 32), (.builtin "ExceptionGroup.__weakref__"), .none]), #[]⟩ ::
    ⟨(.type "super"), none, (.fields #[(.ref 32), (.ref 32), (.ref 32)]), #[]⟩ ::
    ⟨(.type "builtin_function_or_method"), none, (.fields #[(.builtin "object.__init_subclass__"), (.ref 32)]), #[]⟩ ::
    ⟨(.type "tuple"), none, (.seq #[(.ref 32)] 0), #[]⟩ ::
    ⟨(.type "builtin_function_or_method"), none, (.fields #[(.builtin "type.__prepare__"), (.type "type")]), #[]⟩ ::
    ⟨(.type "dict"), none, (.dict #[⟨PyData.keyHash P (Str.ofString "__module__"), (.str (Str.ofString "__module__") 227), (.str (Str.ofString "methodrows.errors") 187)⟩, ⟨PyData.keyHash P (Str.ofString "__qualname__"), (.str (Str.ofString "__qualname__") 229), (.str (Str.ofString "Thrown") 228)⟩, ⟨PyData.keyHash P (Str.ofString "__firstlineno__"), (.str (Str.ofString "__firstlineno__") 231), (.int (8) 230)⟩, ⟨PyData.keyHash P (Str.ofString "__init__"), (.str (Str.ofString "__init__") 239), (.ref 49)⟩, ⟨PyData.keyHash P (Str.ofString "__static_attributes__"), (.str (Str.ofString "__static_attributes__") 241), (.ref 50)⟩] 5), #[]⟩ ::
    ⟨(.type "tuple"), none, (.seq #[] 0), #[]⟩ ::
    ⟨.none, none, (.fields #[(.int (10) 0), (.int (4) 0), (.ref 48)]), #[]⟩ ::
    ⟨(.type "code"), none, (.fields #[(.str (Str.ofString "Thrown") 222), (.str (Str.ofString "Thrown") 223), (.str (Str.ofString "/claim/cut.py") 224), (.int (8) 0), (.int (0) 0), (.int (0) 0), (.int (0) 0), (.int (0) 0), (.ref 39), (.bool false), (.int (181) 0), (.ref 40), .none, .none, .none, .none, (.int (225) 0), (.int (8) 0), (.str (Str.ofString "/claim/cut.py") 226)]), #[]⟩ ::
    ⟨(.type "frame"), none, .plain, #[(some (.ref 41)), (some (.ref 3)), (some (.ref 38)), none, (some (.str (Str.ofString "methodrows.errors") 187)), none, (some (.ref 0))]⟩ ::
    ⟨(.type "tuple"), none, (.seq #[] 0), #[]⟩ ::
    ⟨.none, none, (.fields #[]), #[]⟩ ::
    ⟨(.type "tuple"), none, (.seq #[(.str (Str.ofString "self") 235), (.str (Str.ofString "value") 236)] 0), #[]⟩ ::
    ⟨(.type "tuple"), none, (.seq #[] 0), #[]⟩ ::
    ⟨.none, none, (.func ⟨(Str.ofString "__init__"), (Str.ofString "Thrown.__init__"), argsOf (clsS 2 0), .stmts (bodyOf (clsS 2 0)), scopeOf (clsS 2 0), 0, [], .none, .none, .none, .none, none, .none, .none, 0⟩), #[]⟩ ::
    ⟨(.type "code"), none, (.fields #[(.str (Str.ofString "__init__") 232), (.str (Str.ofString "Thrown.__init__") 233), (.str (Str.ofString "/claim/cut.py") 234), (.int (10) 0), (.int (2) 0), (.int (0) 0), (.int (0) 0), (.int (3) 0), (.ref 43), (.bool true), (.int (181) 0), (.ref 44), .none, (.ref 45), (.ref 46), (.ref 47), (.int (237) 0), (.int (10) 0), (.str (Str.ofString "/claim/cut.py") 238)]), #[]⟩ ::
    ⟨(.type "function"), none, (.func ⟨(Str.ofString "__init__"), (Str.ofString "Thrown.__init__"), argsOf (clsS 2 0), .stmts (bodyOf (clsS 2 0)), scopeOf (clsS 2 0), 3, [], .none, .none, .none, (.str (Str.ofString "methodrows.errors") 187), none, (.ref 48), .none, 0⟩), #[]⟩ ::
    ⟨(.type "tuple"), none, (.seq #[(.str (Str.ofString "value") 240)] 0), #[]⟩ ::
    ⟨(.type "dict"), none, (.dict #[⟨PyData.keyHash P (Str.ofString "__module__"), (.str (Str.ofString "__module__") 227), (.str (Str.ofString "methodrows.errors") 187)⟩, ⟨PyData.keyHash P (Str.ofString "__firstlineno__"), (.str (Str.ofString "__firstlineno__") 231), (.int (8) 230)⟩, ⟨PyData.keyHash P (Str.ofString "__init__"), (.str (Str.ofString "__init__") 239), (.ref 49)⟩, ⟨PyData.keyHash P (Str.ofString "__static_attributes__"), (.str (Str.ofString "__static_attributes__") 241), (.ref 50)⟩, ⟨PyData.keyHash P (Str.ofString "__doc__"), (.str (Str.ofString "__doc__") 242), .none⟩] 2), #[]⟩ ::
    ⟨(.type "type"), none, (.cls ⟨(Str.ofString "Thrown"), [(.ref 32)], [(.ref 52), (.ref 32), (.type "Exception"), (.type "BaseException"), (.type "object")], 51, (Str.ofString "Thrown"), true, [], [], false, none, false⟩), #[(some (.ref 36)), none, (some (.str (Str.ofString "Thrown") 220)), (some (.str (Str.ofString "Thrown") 228)), (some (.builtin "Exception.__new__")), (some (.bool true))]⟩ ::
    ⟨(.type "super"), none, (.fields #[(.ref 52), (.ref 52), (.ref 52)]), #[]⟩ ::
    ⟨(.type "builtin_function_or_method"), none, (.fields #[(.builtin "object.__init_subclass__"), (.ref 52)]), #[]⟩ :: tl
noncomputable def hC (P : Params) (tl : List Obj) : List Obj :=
    ⟨(.type "tuple"), none, (.seq #[] 0), #[]⟩ ::
    ⟨.none, none, (.fields #[]), #[]⟩ ::
    ⟨(.type "tuple"), none, (.seq #[(.str (Str.ofString "text") 250)] 0), #[]⟩ ::
    ⟨(.type "tuple"), none, (.seq #[] 0), #[]⟩ ::
    ⟨.none, none, (.func ⟨(Str.ofString "text_value"), (Str.ofString "text_value"), argsOf (topS 4), .stmts (bodyOf (topS 4)), scopeOf (topS 4), 0, [], .none, .none, .none, .none, none, .none, .none, 0⟩), #[]⟩ ::
    ⟨(.type "code"), none, (.fields #[(.str (Str.ofString "text_value") 247), (.str (Str.ofString "text_value") 248), (.str (Str.ofString "/claim/cut.py") 249), (.int (14) 0), (.int (1) 0), (.int (0) 0), (.int (0) 0), (.int (3) 0), (.ref 55), (.bool true), (.int (181) 0), (.ref 56), .none, (.ref 57), (.ref 58), (.ref 59), (.int (251) 0), (.int (14) 0), (.str (Str.ofString "/claim/cut.py") 252)]), #[]⟩ ::
    ⟨(.type "function"), none, (.func ⟨(Str.ofString "text_value"), (Str.ofString "text_value"), argsOf (topS 4), .stmts (bodyOf (topS 4)), scopeOf (topS 4), 3, [], .none, .none, .none, (.str (Str.ofString "methodrows.forms") 245), none, (.ref 60), .none, 0⟩), #[]⟩ ::
    ⟨(.type "tuple"), none, (.seq #[] 0), #[]⟩ ::
    ⟨.none, none, (.fields #[]), #[]⟩ ::
    ⟨(.type "tuple"), none, (.seq #[(.str (Str.ofString "name") 257)] 0), #[]⟩ ::
    ⟨(.type "tuple"), none, (.seq #[] 0), #[]⟩ ::
    ⟨.none, none, (.func ⟨(Str.ofString "error_kind"), (Str.ofString "error_kind"), argsOf (topS 5), .stmts (bodyOf (topS 5)), scopeOf (topS 5), 0, [], .none, .none, .none, .none, none, .none, .none, 0⟩), #[]⟩ ::
    ⟨(.type "code"), none, (.fields #[(.str (Str.ofString "error_kind") 254), (.str (Str.ofString "error_kind") 255), (.str (Str.ofString "/claim/cut.py") 256), (.int (16) 0), (.int (1) 0), (.int (0) 0), (.int (0) 0), (.int (3) 0), (.ref 62), (.bool true), (.int (181) 0), (.ref 63), .none, (.ref 64), (.ref 65), (.ref 66), (.int (258) 0), (.int (16) 0), (.str (Str.ofString "/claim/cut.py") 259)]), #[]⟩ ::
    ⟨(.type "function"), none, (.func ⟨(Str.ofString "error_kind"), (Str.ofString "error_kind"), argsOf (topS 5), .stmts (bodyOf (topS 5)), scopeOf (topS 5), 3, [], .none, .none, .none, (.str (Str.ofString "methodrows.forms") 245), none, (.ref 67), .none, 0⟩), #[]⟩ ::
    ⟨(.type "tuple"), none, (.seq #[] 0), #[]⟩ ::
    ⟨.none, none, (.fields #[]), #[]⟩ ::
    ⟨(.type "tuple"), none, (.seq #[(.str (Str.ofString "name") 264), (.str (Str.ofString "parts") 265)] 0), #[]⟩ ::
    ⟨(.type "tuple"), none, (.seq #[] 0), #[]⟩ ::
    ⟨.none, none, (.func ⟨(Str.ofString "error_value"), (Str.ofString "error_value"), argsOf (topS 6), .stmts (bodyOf (topS 6)), scopeOf (topS 6), 0, [], .none, .none, .none, .none, none, .none, .none, 0⟩), #[]⟩ ::
    ⟨(.type "code"), none, (.fields #[(.str (Str.ofString "error_value") 261), (.str (Str.ofString "error_value") 262), (.str (Str.ofString "/claim/cut.py") 263), (.int (18) 0), (.int (2) 0), (.int (0) 0), (.int (0) 0), (.int (3) 0), (.ref 69), (.bool true), (.int (181) 0), (.ref 70), .none, (.ref 71), (.ref 72), (.ref 73), (.int (266) 0), (.int (18) 0), (.str (Str.ofString "/claim/cut.py") 267)]), #[]⟩ ::
    ⟨(.type "function"), none, (.func ⟨(Str.ofString "error_value"), (Str.ofString "error_value"), argsOf (topS 6), .stmts (bodyOf (topS 6)), scopeOf (topS 6), 3, [], .none, .none, .none, (.str (Str.ofString "methodrows.forms") 245), none, (.ref 74), .none, 0⟩), #[]⟩ ::
    ⟨(.type "tuple"), none, (.seq #[] 0), #[]⟩ ::
    ⟨.none, none, (.fields #[]), #[]⟩ ::
    ⟨(.type "tuple"), none, (.seq #[(.str (Str.ofString "name") 272), (.str (Str.ofString "parts") 273)] 0), #[]⟩ ::
    ⟨(.type "tuple"), none, (.seq #[] 0), #[]⟩ ::
    ⟨.none, none, (.func ⟨(Str.ofString "thrown"), (Str.ofString "thrown"), argsOf (topS 7), .stmts (bodyOf (topS 7)), scopeOf (topS 7), 0, [], .none, .none, .none, .none, none, .none, .none, 0⟩), #[]⟩ ::
    ⟨(.type "code"), none, (.fields #[(.str (Str.ofString "thrown") 269), (.str (Str.ofString "thrown") 270), (.str (Str.ofString "/claim/cut.py") 271), (.int (20) 0), (.int (2) 0), (.int (0) 0), (.int (0) 0), (.int (3) 0), (.ref 76), (.bool true), (.int (181) 0), (.ref 77), .none, (.ref 78), (.ref 79), (.ref 80), (.int (274) 0), (.int (20) 0), (.str (Str.ofString "/claim/cut.py") 275)]), #[]⟩ ::
    ⟨(.type "function"), none, (.func ⟨(Str.ofString "thrown"), (Str.ofString "thrown"), argsOf (topS 7), .stmts (bodyOf (topS 7)), scopeOf (topS 7), 3, [], .none, .none, .none, (.str (Str.ofString "methodrows.forms") 245), none, (.ref 81), .none, 0⟩), #[]⟩ ::
    ⟨(.type "tuple"), none, (.seq #[] 0), #[]⟩ ::
    ⟨.none, none, (.fields #[]), #[]⟩ ::
    ⟨(.type "tuple"), none, (.seq #[(.str (Str.ofString "name") 280), (.str (Str.ofString "text") 281)] 0), #[]⟩ ::
    ⟨(.type "tuple"), none, (.seq #[] 0), #[]⟩ ::
    ⟨.none, none, (.func ⟨(Str.ofString "thrown_text"), (Str.ofString "thrown_text"), argsOf (topS 8), .stmts (bodyOf (topS 8)), scopeOf (topS 8), 0, [], .none, .none, .none, .none, none, .none, .none, 0⟩), #[]⟩ ::
    ⟨(.type "code"), none, (.fields #[(.str (Str.ofString "thrown_text") 277), (.str (Str.ofString "thrown_text") 278), (.str (Str.ofString "/claim/cut.py") 279), (.int (22) 0), (.int (2) 0), (.int (0) 0), (.int (0) 0), (.int (3) 0), (.ref 83), (.bool true), (.int (181) 0), (.ref 84), .none, (.ref 85), (.ref 86), (.ref 87), (.int (282) 0), (.int (22) 0), (.str (Str.ofString "/claim/cut.py") 283)]), #[]⟩ ::
    ⟨(.type "function"), none, (.func ⟨(Str.ofString "thrown_text"), (Str.ofString "thrown_text"), argsOf (topS 8), .stmts (bodyOf (topS 8)), scopeOf (topS 8), 3, [], .none, .none, .none, (.str (Str.ofString "methodrows.forms") 245), none, (.ref 88), .none, 0⟩), #[]⟩ :: tl
noncomputable def hD (P : Params) (tl : List Obj) : List Obj :=
    ⟨(.type "dict"), none, (.dict #[⟨PyData.keyHash P (Str.ofString "Int8"), (.str (Str.ofString "Int8") 287), (.int (8) 288)⟩, ⟨PyData.keyHash P (Str.ofString "Int16"), (.str (Str.ofString "Int16") 289), (.int (16) 290)⟩, ⟨PyData.keyHash P (Str.ofString "Int32"), (.str (Str.ofString "Int32") 291), (.int (32) 292)⟩, ⟨PyData.keyHash P (Str.ofString "Int64"), (.str (Str.ofString "Int64") 293), (.int (64) 294)⟩, ⟨PyData.keyHash P (Str.ofString "UInt8"), (.str (Str.ofString "UInt8") 295), (.int (8) 296)⟩, ⟨PyData.keyHash P (Str.ofString "UInt16"), (.str (Str.ofString "UInt16") 297), (.int (16) 298)⟩, ⟨PyData.keyHash P (Str.ofString "UInt32"), (.str (Str.ofString "UInt32") 299), (.int (32) 300)⟩, ⟨PyData.keyHash P (Str.ofString "UInt64"), (.str (Str.ofString "UInt64") 301), (.int (64) 302)⟩] 8), #[]⟩ :: tl
noncomputable def hE (P : Params) (tl : List Obj) : List Obj :=
    ⟨(.type "tuple"), none, (.seq #[] 0), #[]⟩ ::
    ⟨.none, none, (.fields #[]), #[]⟩ ::
    ⟨(.type "tuple"), none, (.seq #[(.str (Str.ofString "kind") 319)] 0), #[]⟩ ::
    ⟨(.type "tuple"), none, (.seq #[] 0), #[]⟩ ::
    ⟨.none, none, (.func ⟨(Str.ofString "is_number_kind"), (Str.ofString "is_number_kind"), argsOf (topS 13), .stmts (bodyOf (topS 13)), scopeOf (topS 13), 0, [], .none, .none, .none, .none, none, .none, .none, 0⟩), #[]⟩ ::
    ⟨(.type "code"), none, (.fields #[(.str (Str.ofString "is_number_kind") 316), (.str (Str.ofString "is_number_kind") 317), (.str (Str.ofString "/claim/cut.py") 318), (.int (28) 0), (.int (1) 0), (.int (0) 0), (.int (0) 0), (.int (3) 0), (.ref 91), (.bool true), (.int (181) 0), (.ref 92), .none, (.ref 93), (.ref 94), (.ref 95), (.int (320) 0), (.int (28) 0), (.str (Str.ofString "/claim/cut.py") 321)]), #[]⟩ ::
    ⟨(.type "function"), none, (.func ⟨(Str.ofString "is_number_kind"), (Str.ofString "is_number_kind"), argsOf (topS 13), .stmts (bodyOf (topS 13)), scopeOf (topS 13), 3, [], .none, .none, .none, (.str (Str.ofString "methodrows.fixed") 285), none, (.ref 96), .none, 0⟩), #[]⟩ ::
    ⟨(.type "tuple"), none, (.seq #[] 0), #[]⟩ ::
    ⟨.none, none, (.fields #[]), #[]⟩ ::
    ⟨(.type "tuple"), none, (.seq #[(.str (Str.ofString "kind") 326)] 0), #[]⟩ ::
    ⟨(.type "tuple"), none, (.seq #[] 0), #[]⟩ ::
    ⟨.none, none, (.func ⟨(Str.ofString "bits_of"), (Str.ofString "bits_of"), argsOf (topS 14), .stmts (bodyOf (topS 14)), scopeOf (topS 14), 0, [], .none, .none, .none, .none, none, .none, .none, 0⟩), #[]⟩ ::
    ⟨(.type "code"), none, (.fields #[(.str (Str.ofString "bits_of") 323), (.str (Str.ofString "bits_of") 324), (.str (Str.ofString "/claim/cut.py") 325), (.int (30) 0), (.int (1) 0), (.int (0) 0), (.int (0) 0), (.int (3) 0), (.ref 98), (.bool true), (.int (181) 0), (.ref 99), .none, (.ref 100), (.ref 101), (.ref 102), (.int (327) 0), (.int (30) 0), (.str (Str.ofString "/claim/cut.py") 328)]), #[]⟩ ::
    ⟨(.type "function"), none, (.func ⟨(Str.ofString "bits_of"), (Str.ofString "bits_of"), argsOf (topS 14), .stmts (bodyOf (topS 14)), scopeOf (topS 14), 3, [], .none, .none, .none, (.str (Str.ofString "methodrows.fixed") 285), none, (.ref 103), .none, 0⟩), #[]⟩ ::
    ⟨(.type "tuple"), none, (.seq #[] 0), #[]⟩ ::
    ⟨.none, none, (.fields #[]), #[]⟩ ::
    ⟨(.type "tuple"), none, (.seq #[(.str (Str.ofString "kind") 333)] 0), #[]⟩ ::
    ⟨(.type "tuple"), none, (.seq #[] 0), #[]⟩ ::
    ⟨.none, none, (.func ⟨(Str.ofString "is_signed"), (Str.ofString "is_signed"), argsOf (topS 15), .stmts (bodyOf (topS 15)), scopeOf (topS 15), 0, [], .none, .none, .none, .none, none, .none, .none, 0⟩), #[]⟩ ::
    ⟨(.type "code"), none, (.fields #[(.str (Str.ofString "is_signed") 330), (.str (Str.ofString "is_signed") 331), (.str (Str.ofString "/claim/cut.py") 332), (.int (32) 0), (.int (1) 0), (.int (0) 0), (.int (0) 0), (.int (3) 0), (.ref 105), (.bool true), (.int (181) 0), (.ref 106), .none, (.ref 107), (.ref 108), (.ref 109), (.int (334) 0), (.int (32) 0), (.str (Str.ofString "/claim/cut.py") 335)]), #[]⟩ ::
    ⟨(.type "function"), none, (.func ⟨(Str.ofString "is_signed"), (Str.ofString "is_signed"), argsOf (topS 15), .stmts (bodyOf (topS 15)), scopeOf (topS 15), 3, [], .none, .none, .none, (.str (Str.ofString "methodrows.fixed") 285), none, (.ref 110), .none, 0⟩), #[]⟩ ::
    ⟨(.type "tuple"), none, (.seq #[] 0), #[]⟩ ::
    ⟨.none, none, (.fields #[]), #[]⟩ ::
    ⟨(.type "tuple"), none, (.seq #[(.str (Str.ofString "kind") 340)] 0), #[]⟩ ::
    ⟨(.type "tuple"), none, (.seq #[] 0), #[]⟩ ::
    ⟨.none, none, (.func ⟨(Str.ofString "least"), (Str.ofString "least"), argsOf (topS 16), .stmts (bodyOf (topS 16)), scopeOf (topS 16), 0, [], .none, .none, .none, .none, none, .none, .none, 0⟩), #[]⟩ ::
    ⟨(.type "code"), none, (.fields #[(.str (Str.ofString "least") 337), (.str (Str.ofString "least") 338), (.str (Str.ofString "/claim/cut.py") 339), (.int (34) 0), (.int (1) 0), (.int (0) 0), (.int (0) 0), (.int (3) 0), (.ref 112), (.bool true), (.int (181) 0), (.ref 113), .none, (.ref 114), (.ref 115), (.ref 116), (.int (341) 0), (.int (34) 0), (.str (Str.ofString "/claim/cut.py") 342)]), #[]⟩ ::
    ⟨(.type "function"), none, (.func ⟨(Str.ofString "least"), (Str.ofString "least"), argsOf (topS 16), .stmts (bodyOf (topS 16)), scopeOf (topS 16), 3, [], .none, .none, .none, (.str (Str.ofString "methodrows.fixed") 285), none, (.ref 117), .none, 0⟩), #[]⟩ ::
    ⟨(.type "tuple"), none, (.seq #[] 0), #[]⟩ ::
    ⟨.none, none, (.fields #[]), #[]⟩ ::
    ⟨(.type "tuple"), none, (.seq #[(.str (Str.ofString "kind") 347)] 0), #[]⟩ ::
    ⟨(.type "tuple"), none, (.seq #[] 0), #[]⟩ ::
    ⟨.none, none, (.func ⟨(Str.ofString "greatest"), (Str.ofString "greatest"), argsOf (topS 17), .stmts (bodyOf (topS 17)), scopeOf (topS 17), 0, [], .none, .none, .none, .none, none, .none, .none, 0⟩), #[]⟩ ::
    ⟨(.type "code"), none, (.fields #[(.str (Str.ofString "greatest") 344), (.str (Str.ofString "greatest") 345), (.str (Str.ofString "/claim/cut.py") 346), (.int (38) 0), (.int (1) 0), (.int (0) 0), (.int (0) 0), (.int (3) 0), (.ref 119), (.bool true), (.int (181) 0), (.ref 120), .none, (.ref 121), (.ref 122), (.ref 123), (.int (348) 0), (.int (38) 0), (.str (Str.ofString "/claim/cut.py") 349)]), #[]⟩ ::
    ⟨(.type "function"), none, (.func ⟨(Str.ofString "greatest"), (Str.ofString "greatest"), argsOf (topS 17), .stmts (bodyOf (topS 17)), scopeOf (topS 17), 3, [], .none, .none, .none, (.str (Str.ofString "methodrows.fixed") 285), none, (.ref 124), .none, 0⟩), #[]⟩ ::
    ⟨(.type "tuple"), none, (.seq #[] 0), #[]⟩ ::
    ⟨.none, none, (.fields #[]), #[]⟩ ::
    ⟨(.type "tuple"), none, (.seq #[(.str (Str.ofString "kind") 354), (.str (Str.ofString "number") 355)] 0), #[]⟩ ::
    ⟨(.type "tuple"), none, (.seq #[] 0), #[]⟩ ::
    ⟨.none, none, (.func ⟨(Str.ofString "fits"), (Str.ofString "fits"), argsOf (topS 18), .stmts (bodyOf (topS 18)), scopeOf (topS 18), 0, [], .none, .none, .none, .none, none, .none, .none, 0⟩), #[]⟩ ::
    ⟨(.type "code"), none, (.fields #[(.str (Str.ofString "fits") 351), (.str (Str.ofString "fits") 352), (.str (Str.ofString "/claim/cut.py") 353), (.int (42) 0), (.int (2) 0), (.int (0) 0), (.int (0) 0), (.int (3) 0), (.ref 126), (.bool true), (.int (181) 0), (.ref 127), .none, (.ref 128), (.ref 129), (.ref 130), (.int (356) 0), (.int (42) 0), (.str (Str.ofString "/claim/cut.py") 357)]), #[]⟩ ::
    ⟨(.type "function"), none, (.func ⟨(Str.ofString "fits"), (Str.ofString "fits"), argsOf (topS 18), .stmts (bodyOf (topS 18)), scopeOf (topS 18), 3, [], .none, .none, .none, (.str (Str.ofString "methodrows.fixed") 285), none, (.ref 131), .none, 0⟩), #[]⟩ ::
    ⟨(.type "tuple"), none, (.seq #[] 0), #[]⟩ ::
    ⟨.none, none, (.fields #[]), #[]⟩ ::
    ⟨(.type "tuple"), none, (.seq #[(.str (Str.ofString "number") 362)] 0), #[]⟩ ::
    ⟨(.type "tuple"), none, (.seq #[] 0), #[]⟩ ::
    ⟨.none, none, (.func ⟨(Str.ofString "bounded"), (Str.ofString "bounded"), argsOf (topS 19), .stmts (bodyOf (topS 19)), scopeOf (topS 19), 0, [], .none, .none, .none, .none, none, .none, .none, 0⟩), #[]⟩ ::
    ⟨(.type "code"), none, (.fields #[(.str (Str.ofString "bounded") 359), (.str (Str.ofString "bounded") 360), (.str (Str.ofString "/claim/cut.py") 361), (.int (44) 0), (.int (1) 0), (.int (0) 0), (.int (0) 0), (.int (3) 0), (.ref 133), (.bool true), (.int (181) 0), (.ref 134), .none, (.ref 135), (.ref 136), (.ref 137), (.int (363) 0), (.int (44) 0), (.str (Str.ofString "/claim/cut.py") 364)]), #[]⟩ ::
    ⟨(.type "function"), none, (.func ⟨(Str.ofString "bounded"), (Str.ofString "bounded"), argsOf (topS 19), .stmts (bodyOf (topS 19)), scopeOf (topS 19), 3, [], .none, .none, .none, (.str (Str.ofString "methodrows.fixed") 285), none, (.ref 138), .none, 0⟩), #[]⟩ ::
    ⟨(.type "tuple"), none, (.seq #[] 0), #[]⟩ ::
    ⟨.none, none, (.fields #[]), #[]⟩ ::
    ⟨(.type "tuple"), none, (.seq #[(.str (Str.ofString "kind") 369), (.str (Str.ofString "number") 370), (.str (Str.ofString "width") 371), (.str (Str.ofString "low") 372)] 0), #[]⟩ ::
    ⟨(.type "tuple"), none, (.seq #[] 0), #[]⟩ ::
    ⟨.none, none, (.func ⟨(Str.ofString "wrapped"), (Str.ofString "wrapped"), argsOf (topS 20), .stmts (bodyOf (topS 20)), scopeOf (topS 20), 0, [], .none, .none, .none, .none, none, .none, .none, 0⟩), #[]⟩ ::
    ⟨(.type "code"), none, (.fields #[(.str (Str.ofString "wrapped") 366), (.str (Str.ofString "wrapped") 367), (.str (Str.ofString "/claim/cut.py") 368), (.int (48) 0), (.int (2) 0), (.int (0) 0), (.int (0) 0), (.int (3) 0), (.ref 140), (.bool true), (.int (181) 0), (.ref 141), .none, (.ref 142), (.ref 143), (.ref 144), (.int (373) 0), (.int (48) 0), (.str (Str.ofString "/claim/cut.py") 374)]), #[]⟩ ::
    ⟨(.type "function"), none, (.func ⟨(Str.ofString "wrapped"), (Str.ofString "wrapped"), argsOf (topS 20), .stmts (bodyOf (topS 20)), scopeOf (topS 20), 3, [], .none, .none, .none, (.str (Str.ofString "methodrows.fixed") 285), none, (.ref 145), .none, 0⟩), #[]⟩ ::
    ⟨(.type "tuple"), none, (.seq #[] 0), #[]⟩ ::
    ⟨.none, none, (.fields #[]), #[]⟩ ::
    ⟨(.type "tuple"), none, (.seq #[(.str (Str.ofString "kind") 379)] 0), #[]⟩ ::
    ⟨(.type "tuple"), none, (.seq #[] 0), #[]⟩ ::
    ⟨.none, none, (.func ⟨(Str.ofString "kind_value"), (Str.ofString "kind_value"), argsOf (topS 21), .stmts (bodyOf (topS 21)), scopeOf (topS 21), 0, [], .none, .none, .none, .none, none, .none, .none, 0⟩), #[]⟩ ::
    ⟨(.type "code"), none, (.fields #[(.str (Str.ofString "kind_value") 376), (.str (Str.ofString "kind_value") 377), (.str (Str.ofString "/claim/cut.py") 378), (.int (54) 0), (.int (1) 0), (.int (0) 0), (.int (0) 0), (.int (3) 0), (.ref 147), (.bool true), (.int (181) 0), (.ref 148), .none, (.ref 149), (.ref 150), (.ref 151), (.int (380) 0), (.int (54) 0), (.str (Str.ofString "/claim/cut.py") 381)]), #[]⟩ ::
    ⟨(.type "function"), none, (.func ⟨(Str.ofString "kind_value"), (Str.ofString "kind_value"), argsOf (topS 21), .stmts (bodyOf (topS 21)), scopeOf (topS 21), 3, [], .none, .none, .none, (.str (Str.ofString "methodrows.fixed") 285), none, (.ref 152), .none, 0⟩), #[]⟩ ::
    ⟨(.type "tuple"), none, (.seq #[] 0), #[]⟩ ::
    ⟨.none, none, (.fields #[]), #[]⟩ ::
    ⟨(.type "tuple"), none, (.seq #[(.str (Str.ofString "kind") 386), (.str (Str.ofString "number") 387), (.str (Str.ofString "value") 388)] 0), #[]⟩ ::
    ⟨(.type "tuple"), none, (.seq #[] 0), #[]⟩ ::
    ⟨.none, none, (.func ⟨(Str.ofString "converted"), (Str.ofString "converted"), argsOf (topS 22), .stmts (bodyOf (topS 22)), scopeOf (topS 22), 0, [], .none, .none, .none, .none, none, .none, .none, 0⟩), #[]⟩ ::
    ⟨(.type "code"), none, (.fields #[(.str (Str.ofString "converted") 383), (.str (Str.ofString "converted") 384), (.str (Str.ofString "/claim/cut.py") 385), (.int (56) 0), (.int (3) 0), (.int (0) 0), (.int (0) 0), (.int (3) 0), (.ref 154), (.bool true), (.int (181) 0), (.ref 155), .none, (.ref 156), (.ref 157), (.ref 158), (.int (389) 0), (.int (56) 0), (.str (Str.ofString "/claim/cut.py") 390)]), #[]⟩ ::
    ⟨(.type "function"), none, (.func ⟨(Str.ofString "converted"), (Str.ofString "converted"), argsOf (topS 22), .stmts (bodyOf (topS 22)), scopeOf (topS 22), 3, [], .none, .none, .none, (.str (Str.ofString "methodrows.fixed") 285), none, (.ref 159), .none, 0⟩), #[]⟩ ::
    ⟨(.type "tuple"), none, (.seq #[] 0), #[]⟩ ::
    ⟨.none, none, (.fields #[]), #[]⟩ ::
    ⟨(.type "tuple"), none, (.seq #[(.str (Str.ofString "kind") 399)] 0), #[]⟩ ::
    ⟨(.type "tuple"), none, (.seq #[] 0), #[]⟩ ::
    ⟨.none, none, (.func ⟨(Str.ofString "is_promoted"), (Str.ofString "is_promoted"), argsOf (topS 25), .stmts (bodyOf (topS 25)), scopeOf (topS 25), 0, [], .none, .none, .none, .none, none, .none, .none, 0⟩), #[]⟩ ::
    ⟨(.type "code"), none, (.fields #[(.str (Str.ofString "is_promoted") 396), (.str (Str.ofString "is_promoted") 397), (.str (Str.ofString "/claim/cut.py") 398), (.int (64) 0), (.int (1) 0), (.int (0) 0), (.int (0) 0), (.int (3) 0), (.ref 161), (.bool true), (.int (181) 0), (.ref 162), .none, (.ref 163), (.ref 164), (.ref 165), (.int (400) 0), (.int (64) 0), (.str (Str.ofString "/claim/cut.py") 401)]), #[]⟩ ::
    ⟨(.type "function"), none, (.func ⟨(Str.ofString "is_promoted"), (Str.ofString "is_promoted"), argsOf (topS 25), .stmts (bodyOf (topS 25)), scopeOf (topS 25), 3, [], .none, .none, .none, (.str (Str.ofString "methodrows.promote") 392), none, (.ref 166), .none, 0⟩), #[]⟩ ::
    ⟨(.type "tuple"), none, (.seq #[] 0), #[]⟩ ::
    ⟨.none, none, (.fields #[]), #[]⟩ ::
    ⟨(.type "tuple"), none, (.seq #[(.str (Str.ofString "kind") 406)] 0), #[]⟩ ::
    ⟨(.type "tuple"), none, (.seq #[] 0), #[]⟩ ::
    ⟨.none, none, (.func ⟨(Str.ofString "rank_of"), (Str.ofString "rank_of"), argsOf (topS 26), .stmts (bodyOf (topS 26)), scopeOf (topS 26), 0, [], .none, .none, .none, .none, none, .none, .none, 0⟩), #[]⟩ ::
    ⟨(.type "code"), none, (.fields #[(.str (Str.ofString "rank_of") 403), (.str (Str.ofString "rank_of") 404), (.str (Str.ofString "/claim/cut.py") 405), (.int (66) 0), (.int (1) 0), (.int (0) 0), (.int (0) 0), (.int (3) 0), (.ref 168), (.bool true), (.int (181) 0), (.ref 169), .none, (.ref 170), (.ref 171), (.ref 172), (.int (407) 0), (.int (66) 0), (.str (Str.ofString "/claim/cut.py") 408)]), #[]⟩ ::
    ⟨(.type "function"), none, (.func ⟨(Str.ofString "rank_of"), (Str.ofString "rank_of"), argsOf (topS 26), .stmts (bodyOf (topS 26)), scopeOf (topS 26), 3, [], .none, .none, .none, (.str (Str.ofString "methodrows.promote") 392), none, (.ref 173), .none, 0⟩), #[]⟩ ::
    ⟨(.type "tuple"), none, (.seq #[] 0), #[]⟩ ::
    ⟨.none, none, (.fields #[]), #[]⟩ ::
    ⟨(.type "tuple"), none, (.seq #[(.str (Str.ofString "one") 413), (.str (Str.ofString "other") 414)] 0), #[]⟩ ::
    ⟨(.type "tuple"), none, (.seq #[] 0), #[]⟩ ::
    ⟨.none, none, (.func ⟨(Str.ofString "promoted"), (Str.ofString "promoted"), argsOf (topS 27), .stmts (bodyOf (topS 27)), scopeOf (topS 27), 0, [], .none, .none, .none, .none, none, .none, .none, 0⟩), #[]⟩ ::
    ⟨(.type "code"), none, (.fields #[(.str (Str.ofString "promoted") 410), (.str (Str.ofString "promoted") 411), (.str (Str.ofString "/claim/cut.py") 412), (.int (70) 0), (.int (2) 0), (.int (0) 0), (.int (0) 0), (.int (3) 0), (.ref 175), (.bool true), (.int (181) 0), (.ref 176), .none, (.ref 177), (.ref 178), (.ref 179), (.int (415) 0), (.int (70) 0), (.str (Str.ofString "/claim/cut.py") 416)]), #[]⟩ ::
    ⟨(.type "function"), none, (.func ⟨(Str.ofString "promoted"), (Str.ofString "promoted"), argsOf (topS 27), .stmts (bodyOf (topS 27)), scopeOf (topS 27), 3, [], .none, .none, .none, (.str (Str.ofString "methodrows.promote") 392), none, (.ref 180), .none, 0⟩), #[]⟩ ::
    ⟨(.type "tuple"), none, (.seq #[] 0), #[]⟩ ::
    ⟨.none, none, (.fields #[]), #[]⟩ ::
    ⟨(.type "tuple"), none, (.seq #[(.str (Str.ofString "kinds") 421), (.str (Str.ofString "found") 422), (.str (Str.ofString "kind") 423)] 0), #[]⟩ ::
    ⟨(.type "tuple"), none, (.seq #[] 0), #[]⟩ ::
    ⟨.none, none, (.func ⟨(Str.ofString "promoted_all"), (Str.ofString "promoted_all"), argsOf (topS 28), .stmts (bodyOf (topS 28)), scopeOf (topS 28), 0, [], .none, .none, .none, .none, none, .none, .none, 0⟩), #[]⟩ ::
    ⟨(.type "code"), none, (.fields #[(.str (Str.ofString "promoted_all") 418), (.str (Str.ofString "promoted_all") 419), (.str (Str.ofString "/claim/cut.py") 420), (.int (74) 0), (.int (1) 0), (.int (0) 0), (.int (0) 0), (.int (3) 0), (.ref 182), (.bool true), (.int (181) 0), (.ref 183), .none, (.ref 184), (.ref 185), (.ref 186), (.int (424) 0), (.int (74) 0), (.str (Str.ofString "/claim/cut.py") 425)]), #[]⟩ ::
    ⟨(.type "function"), none, (.func ⟨(Str.ofString "promoted_all"), (Str.ofString "promoted_all"), argsOf (topS 28), .stmts (bodyOf (topS 28)), scopeOf (topS 28), 3, [], .none, .none, .none, (.str (Str.ofString "methodrows.promote") 392), none, (.ref 187), .none, 0⟩), #[]⟩ :: tl
noncomputable def hF (P : Params) : List Obj :=
    ⟨(.type "tuple"), none, (.seq #[] 0), #[]⟩ ::
    ⟨.none, none, (.fields #[]), #[]⟩ ::
    ⟨(.type "tuple"), none, (.seq #[(.str (Str.ofString "value") 430)] 0), #[]⟩ ::
    ⟨(.type "tuple"), none, (.seq #[] 0), #[]⟩ ::
    ⟨.none, none, (.func ⟨(Str.ofString "number_kind"), (Str.ofString "number_kind"), argsOf (topS 29), .stmts (bodyOf (topS 29)), scopeOf (topS 29), 0, [], .none, .none, .none, .none, none, .none, .none, 0⟩), #[]⟩ ::
    ⟨(.type "code"), none, (.fields #[(.str (Str.ofString "number_kind") 427), (.str (Str.ofString "number_kind") 428), (.str (Str.ofString "/claim/cut.py") 429), (.int (79) 0), (.int (1) 0), (.int (0) 0), (.int (0) 0), (.int (3) 0), (.ref 189), (.bool true), (.int (181) 0), (.ref 190), .none, (.ref 191), (.ref 192), (.ref 193), (.int (431) 0), (.int (79) 0), (.str (Str.ofString "/claim/cut.py") 432)]), #[]⟩ ::
    ⟨(.type "function"), none, (.func ⟨(Str.ofString "number_kind"), (Str.ofString "number_kind"), argsOf (topS 29), .stmts (bodyOf (topS 29)), scopeOf (topS 29), 3, [], .none, .none, .none, (.str (Str.ofString "methodrows.promote") 392), none, (.ref 194), .none, 0⟩), #[]⟩ ::
    ⟨(.type "tuple"), none, (.seq #[] 0), #[]⟩ ::
    ⟨.none, none, (.fields #[]), #[]⟩ ::
    ⟨(.type "tuple"), none, (.seq #[(.str (Str.ofString "value") 437)] 0), #[]⟩ ::
    ⟨(.type "tuple"), none, (.seq #[] 0), #[]⟩ ::
    ⟨.none, none, (.func ⟨(Str.ofString "plain_number"), (Str.ofString "plain_number"), argsOf (topS 30), .stmts (bodyOf (topS 30)), scopeOf (topS 30), 0, [], .none, .none, .none, .none, none, .none, .none, 0⟩), #[]⟩ ::
    ⟨(.type "code"), none, (.fields #[(.str (Str.ofString "plain_number") 434), (.str (Str.ofString "plain_number") 435), (.str (Str.ofString "/claim/cut.py") 436), (.int (83) 0), (.int (1) 0), (.int (0) 0), (.int (0) 0), (.int (3) 0), (.ref 196), (.bool true), (.int (181) 0), (.ref 197), .none, (.ref 198), (.ref 199), (.ref 200), (.int (438) 0), (.int (83) 0), (.str (Str.ofString "/claim/cut.py") 439)]), #[]⟩ ::
    ⟨(.type "function"), none, (.func ⟨(Str.ofString "plain_number"), (Str.ofString "plain_number"), argsOf (topS 30), .stmts (bodyOf (topS 30)), scopeOf (topS 30), 3, [], .none, .none, .none, (.str (Str.ofString "methodrows.promote") 392), none, (.ref 201), .none, 0⟩), #[]⟩ ::
    ⟨(.type "tuple"), none, (.seq #[] 0), #[]⟩ ::
    ⟨.none, none, (.fields #[]), #[]⟩ ::
    ⟨(.type "tuple"), none, (.seq #[(.str (Str.ofString "kind") 444), (.str (Str.ofString "number") 445)] 0), #[]⟩ ::
    ⟨(.type "tuple"), none, (.seq #[] 0), #[]⟩ ::
    ⟨.none, none, (.func ⟨(Str.ofString "number_value"), (Str.ofString "number_value"), argsOf (topS 31), .stmts (bodyOf (topS 31)), scopeOf (topS 31), 0, [], .none, .none, .none, .none, none, .none, .none, 0⟩), #[]⟩ ::
    ⟨(.type "code"), none, (.fields #[(.str (Str.ofString "number_value") 441), (.str (Str.ofString "number_value") 442), (.str (Str.ofString "/claim/cut.py") 443), (.int (85) 0), (.int (2) 0), (.int (0) 0), (.int (0) 0), (.int (3) 0), (.ref 203), (.bool true), (.int (181) 0), (.ref 204), .none, (.ref 205), (.ref 206), (.ref 207), (.int (446) 0), (.int (85) 0), (.str (Str.ofString "/claim/cut.py") 447)]), #[]⟩ ::
    ⟨(.type "function"), none, (.func ⟨(Str.ofString "number_value"), (Str.ofString "number_value"), argsOf (topS 31), .stmts (bodyOf (topS 31)), scopeOf (topS 31), 3, [], .none, .none, .none, (.str (Str.ofString "methodrows.promote") 392), none, (.ref 208), .none, 0⟩), #[]⟩ ::
    ⟨(.type "tuple"), none, (.seq #[] 0), #[]⟩ ::
    ⟨.none, none, (.fields #[]), #[]⟩ ::
    ⟨(.type "tuple"), none, (.seq #[(.str (Str.ofString "kind") 452), (.str (Str.ofString "value") 453), (.str (Str.ofString "number") 454)] 0), #[]⟩ ::
    ⟨(.type "tuple"), none, (.seq #[] 0), #[]⟩ ::
    ⟨.none, none, (.func ⟨(Str.ofString "converted_to"), (Str.ofString "converted_to"), argsOf (topS 32), .stmts (bodyOf (topS 32)), scopeOf (topS 32), 0, [], .none, .none, .none, .none, none, .none, .none, 0⟩), #[]⟩ ::
    ⟨(.type "code"), none, (.fields #[(.str (Str.ofString "converted_to") 449), (.str (Str.ofString "converted_to") 450), (.str (Str.ofString "/claim/cut.py") 451), (.int (87) 0), (.int (2) 0), (.int (0) 0), (.int (0) 0), (.int (3) 0), (.ref 210), (.bool true), (.int (181) 0), (.ref 211), .none, (.ref 212), (.ref 213), (.ref 214), (.int (455) 0), (.int (87) 0), (.str (Str.ofString "/claim/cut.py") 456)]), #[]⟩ ::
    ⟨(.type "function"), none, (.func ⟨(Str.ofString "converted_to"), (Str.ofString "converted_to"), argsOf (topS 32), .stmts (bodyOf (topS 32)), scopeOf (topS 32), 3, [], .none, .none, .none, (.str (Str.ofString "methodrows.promote") 392), none, (.ref 215), .none, 0⟩), #[]⟩ ::
    ⟨(.type "tuple"), none, (.seq #[] 0), #[]⟩ ::
    ⟨.none, none, (.fields #[]), #[]⟩ ::
    ⟨(.type "tuple"), none, (.seq #[(.str (Str.ofString "kind") 461), (.str (Str.ofString "value") 462)] 0), #[]⟩ ::
    ⟨(.type "tuple"), none, (.seq #[] 0), #[]⟩ ::
    ⟨.none, none, (.func ⟨(Str.ofString "led_to"), (Str.ofString "led_to"), argsOf (topS 33), .stmts (bodyOf (topS 33)), scopeOf (topS 33), 0, [], .none, .none, .none, .none, none, .none, .none, 0⟩), #[]⟩ ::
    ⟨(.type "code"), none, (.fields #[(.str (Str.ofString "led_to") 458), (.str (Str.ofString "led_to") 459), (.str (Str.ofString "/claim/cut.py") 460), (.int (94) 0), (.int (2) 0), (.int (0) 0), (.int (0) 0), (.int (3) 0), (.ref 217), (.bool true), (.int (181) 0), (.ref 218), .none, (.ref 219), (.ref 220), (.ref 221), (.int (463) 0), (.int (94) 0), (.str (Str.ofString "/claim/cut.py") 464)]), #[]⟩ ::
    ⟨(.type "function"), none, (.func ⟨(Str.ofString "led_to"), (Str.ofString "led_to"), argsOf (topS 33), .stmts (bodyOf (topS 33)), scopeOf (topS 33), 3, [], .none, .none, .none, (.str (Str.ofString "methodrows.promote") 392), none, (.ref 222), .none, 0⟩), #[]⟩ ::
    ⟨(.type "tuple"), none, (.seq #[] 0), #[]⟩ ::
    ⟨.none, none, (.fields #[]), #[]⟩ ::
    ⟨(.type "tuple"), none, (.seq #[(.str (Str.ofString "one") 469), (.str (Str.ofString "other") 470), (.str (Str.ofString "kind") 471)] 0), #[]⟩ ::
    ⟨(.type "tuple"), none, (.seq #[] 0), #[]⟩ ::
    ⟨.none, none, (.func ⟨(Str.ofString "converted_both"), (Str.ofString "converted_both"), argsOf (topS 34), .stmts (bodyOf (topS 34)), scopeOf (topS 34), 0, [], .none, .none, .none, .none, none, .none, .none, 0⟩), #[]⟩ ::
    ⟨(.type "code"), none, (.fields #[(.str (Str.ofString "converted_both") 466), (.str (Str.ofString "converted_both") 467), (.str (Str.ofString "/claim/cut.py") 468), (.int (96) 0), (.int (2) 0), (.int (0) 0), (.int (0) 0), (.int (3) 0), (.ref 224), (.bool true), (.int (181) 0), (.ref 225), .none, (.ref 226), (.ref 227), (.ref 228), (.int (472) 0), (.int (96) 0), (.str (Str.ofString "/claim/cut.py") 473)]), #[]⟩ ::
    ⟨(.type "function"), none, (.func ⟨(Str.ofString "converted_both"), (Str.ofString "converted_both"), argsOf (topS 34), .stmts (bodyOf (topS 34)), scopeOf (topS 34), 3, [], .none, .none, .none, (.str (Str.ofString "methodrows.promote") 392), none, (.ref 229), .none, 0⟩), #[]⟩ ::
    ⟨(.type "tuple"), none, (.seq #[] 0), #[]⟩ ::
    ⟨.none, none, (.fields #[]), #[]⟩ ::
    ⟨(.type "tuple"), none, (.seq #[(.str (Str.ofString "one") 478), (.str (Str.ofString "other") 479), (.str (Str.ofString "kind") 480)] 0), #[]⟩ ::
    ⟨(.type "tuple"), none, (.seq #[] 0), #[]⟩ ::
    ⟨.none, none, (.func ⟨(Str.ofString "led_both"), (Str.ofString "led_both"), argsOf (topS 35), .stmts (bodyOf (topS 35)), scopeOf (topS 35), 0, [], .none, .none, .none, .none, none, .none, .none, 0⟩), #[]⟩ ::
    ⟨(.type "code"), none, (.fields #[(.str (Str.ofString "led_both") 475), (.str (Str.ofString "led_both") 476), (.str (Str.ofString "/claim/cut.py") 477), (.int (99) 0), (.int (2) 0), (.int (0) 0), (.int (0) 0), (.int (3) 0), (.ref 231), (.bool true), (.int (181) 0), (.ref 232), .none, (.ref 233), (.ref 234), (.ref 235), (.int (481) 0), (.int (99) 0), (.str (Str.ofString "/claim/cut.py") 482)]), #[]⟩ ::
    ⟨(.type "function"), none, (.func ⟨(Str.ofString "led_both"), (Str.ofString "led_both"), argsOf (topS 35), .stmts (bodyOf (topS 35)), scopeOf (topS 35), 3, [], .none, .none, .none, (.str (Str.ofString "methodrows.promote") 392), none, (.ref 236), .none, 0⟩), #[]⟩ ::
    ⟨(.type "tuple"), none, (.seq #[] 0), #[]⟩ ::
    ⟨.none, none, (.fields #[]), #[]⟩ ::
    ⟨(.type "tuple"), none, (.seq #[(.str (Str.ofString "one") 487), (.str (Str.ofString "other") 488), (.str (Str.ofString "left") 489), (.str (Str.ofString "right") 490)] 0), #[]⟩ ::
    ⟨(.type "tuple"), none, (.seq #[] 0), #[]⟩ ::
    ⟨.none, none, (.func ⟨(Str.ofString "order_of"), (Str.ofString "order_of"), argsOf (topS 36), .stmts (bodyOf (topS 36)), scopeOf (topS 36), 0, [], .none, .none, .none, .none, none, .none, .none, 0⟩), #[]⟩ ::
    ⟨(.type "code"), none, (.fields #[(.str (Str.ofString "order_of") 484), (.str (Str.ofString "order_of") 485), (.str (Str.ofString "/claim/cut.py") 486), (.int (104) 0), (.int (2) 0), (.int (0) 0), (.int (0) 0), (.int (3) 0), (.ref 238), (.bool true), (.int (181) 0), (.ref 239), .none, (.ref 240), (.ref 241), (.ref 242), (.int (491) 0), (.int (104) 0), (.str (Str.ofString "/claim/cut.py") 492)]), #[]⟩ ::
    ⟨(.type "function"), none, (.func ⟨(Str.ofString "order_of"), (Str.ofString "order_of"), argsOf (topS 36), .stmts (bodyOf (topS 36)), scopeOf (topS 36), 3, [], .none, .none, .none, (.str (Str.ofString "methodrows.promote") 392), none, (.ref 243), .none, 0⟩), #[]⟩ ::
    ⟨(.type "list"), none, (.seq #[(.str (Str.ofString "Bool") 496), (.str (Str.ofString "Int8") 497), (.str (Str.ofString "UInt8") 498), (.str (Str.ofString "Int16") 499), (.str (Str.ofString "UInt16") 500), (.str (Str.ofString "Int32") 501), (.str (Str.ofString "UInt32") 502), (.str (Str.ofString "Int64") 503), (.str (Str.ofString "UInt64") 504), (.str (Str.ofString "BigInt") 505)] 0), #[]⟩ ::
    ⟨(.type "tuple"), none, (.seq #[] 0), #[]⟩ ::
    ⟨.none, none, (.fields #[]), #[]⟩ ::
    ⟨(.type "tuple"), none, (.seq #[(.str (Str.ofString "script") 510), (.str (Str.ofString "here") 511), (.str (Str.ofString "twice") 512)] 0), #[]⟩ ::
    ⟨(.type "tuple"), none, (.seq #[] 0), #[]⟩ ::
    ⟨.none, none, (.func ⟨(Str.ofString "_law_deep"), (Str.ofString "_law_deep"), argsOf (topS 39), .stmts (bodyOf (topS 39)), scopeOf (topS 39), 0, [], .none, .none, .none, .none, none, .none, .none, 0⟩), #[]⟩ ::
    ⟨(.type "code"), none, (.fields #[(.str (Str.ofString "_law_deep") 507), (.str (Str.ofString "_law_deep") 508), (.str (Str.ofString "/claim/cut.py") 509), (.int (109) 0), (.int (1) 0), (.int (0) 0), (.int (0) 0), (.int (3) 0), (.ref 246), (.bool true), (.int (181) 0), (.ref 247), .none, (.ref 248), (.ref 249), (.ref 250), (.int (513) 0), (.int (109) 0), (.str (Str.ofString "/claim/cut.py") 514)]), #[]⟩ ::
    ⟨(.type "function"), none, (.func ⟨(Str.ofString "_law_deep"), (Str.ofString "_law_deep"), argsOf (topS 39), .stmts (bodyOf (topS 39)), scopeOf (topS 39), 3, [], .none, .none, .none, (.str (Str.ofString "law_pc0194_01") 494), none, (.ref 251), .none, 0⟩), #[]⟩ ::
    ⟨(.type "tuple"), none, (.seq #[] 0), #[]⟩ ::
    ⟨.none, none, (.fields #[]), #[]⟩ ::
    ⟨(.type "tuple"), none, (.seq #[(.str (Str.ofString "deep") 519), (.str (Str.ofString "most") 520), (.str (Str.ofString "figure") 521)] 0), #[]⟩ ::
    ⟨(.type "tuple"), none, (.seq #[] 0), #[]⟩ ::
    ⟨.none, none, (.func ⟨(Str.ofString "_law_next"), (Str.ofString "_law_next"), argsOf (topS 40), .stmts (bodyOf (topS 40)), scopeOf (topS 40), 0, [], .none, .none, .none, .none, none, .none, .none, 0⟩), #[]⟩ ::
    ⟨(.type "code"), none, (.fields #[(.str (Str.ofString "_law_next") 516), (.str (Str.ofString "_law_next") 517), (.str (Str.ofString "/claim/cut.py") 518), (.int (113) 0), (.int (2) 0), (.int (0) 0), (.int (0) 0), (.int (3) 0), (.ref 253), (.bool true), (.int (181) 0), (.ref 254), .none, (.ref 255), (.ref 256), (.ref 257), (.int (522) 0), (.int (113) 0), (.str (Str.ofString "/claim/cut.py") 523)]), #[]⟩ ::
    ⟨(.type "function"), none, (.func ⟨(Str.ofString "_law_next"), (Str.ofString "_law_next"), argsOf (topS 40), .stmts (bodyOf (topS 40)), scopeOf (topS 40), 3, [], .none, .none, .none, (.str (Str.ofString "law_pc0194_01") 494), none, (.ref 258), .none, 0⟩), #[]⟩ ::
    ⟨(.type "tuple"), none, (.seq #[] 0), #[]⟩ ::
    ⟨.none, none, (.fields #[]), #[]⟩ ::
    ⟨.none, none, (.func ⟨(Str.ofString "_law_bounds"), (Str.ofString "_law_bounds"), argsOf (topS 41), .stmts (bodyOf (topS 41)), scopeOf (topS 41), 0, [], .none, .none, .none, .none, none, .none, .none, 0⟩), #[]⟩ ::
    ⟨(.type "code"), none, (.fields #[(.str (Str.ofString "_law_bounds") 525), (.str (Str.ofString "_law_bounds") 526), (.str (Str.ofString "/claim/cut.py") 527), (.int (120) 0), (.int (1) 0), (.int (0) 0), (.int (0) 0), (.int (3) 0), (.ref 260), (.bool true), (.int (181) 0), (.ref 261), .none, .none, .none, (.ref 262), (.int (528) 0), (.int (120) 0), (.str (Str.ofString "/claim/cut.py") 529)]), #[]⟩ ::
    ⟨(.type "function"), none, (.func ⟨(Str.ofString "_law_bounds"), (Str.ofString "_law_bounds"), argsOf (topS 41), .stmts (bodyOf (topS 41)), scopeOf (topS 41), 3, [], .none, .none, .none, (.str (Str.ofString "law_pc0194_01") 494), none, (.ref 263), .none, 0⟩), #[]⟩ ::
    ⟨(.type "tuple"), none, (.seq #[] 0), #[]⟩ ::
    ⟨.none, none, (.fields #[]), #[]⟩ ::
    ⟨(.type "tuple"), none, (.seq #[(.str (Str.ofString "deep") 534), (.str (Str.ofString "kind") 535), (.str (Str.ofString "low") 536), (.str (Str.ofString "high") 537), (.str (Str.ofString "number") 538)] 0), #[]⟩ ::
    ⟨(.type "tuple"), none, (.seq #[] 0), #[]⟩ ::
    ⟨.none, none, (.func ⟨(Str.ofString "_law_value"), (Str.ofString "_law_value"), argsOf (topS 42), .stmts (bodyOf (topS 42)), scopeOf (topS 42), 0, [], .none, .none, .none, .none, none, .none, .none, 0⟩), #[]⟩ ::
    ⟨(.type "code"), none, (.fields #[(.str (Str.ofString "_law_value") 531), (.str (Str.ofString "_law_value") 532), (.str (Str.ofString "/claim/cut.py") 533), (.int (127) 0), (.int (1) 0), (.int (0) 0), (.int (0) 0), (.int (3) 0), (.ref 265), (.bool true), (.int (181) 0), (.ref 266), .none, (.ref 267), (.ref 268), (.ref 269), (.int (539) 0), (.int (127) 0), (.str (Str.ofString "/claim/cut.py") 540)]), #[]⟩ ::
    ⟨(.type "function"), none, (.func ⟨(Str.ofString "_law_value"), (Str.ofString "_law_value"), argsOf (topS 42), .stmts (bodyOf (topS 42)), scopeOf (topS 42), 3, [], .none, .none, .none, (.str (Str.ofString "law_pc0194_01") 494), none, (.ref 270), .none, 0⟩), #[]⟩ ::
    ⟨(.type "tuple"), none, (.seq #[] 0), #[]⟩ ::
    ⟨.none, none, (.fields #[]), #[]⟩ ::
    ⟨(.type "tuple"), none, (.seq #[(.str (Str.ofString "deed") 545), (.str (Str.ofString "fault") 546)] 0), #[]⟩ ::
    ⟨(.type "tuple"), none, (.seq #[] 0), #[]⟩ ::
    ⟨.none, none, (.func ⟨(Str.ofString "_law_seen"), (Str.ofString "_law_seen"), argsOf (topS 43), .stmts (bodyOf (topS 43)), scopeOf (topS 43), 0, [], .none, .none, .none, .none, none, .none, .none, 0⟩), #[]⟩ ::
    ⟨(.type "code"), none, (.fields #[(.str (Str.ofString "_law_seen") 542), (.str (Str.ofString "_law_seen") 543), (.str (Str.ofString "/claim/cut.py") 544), (.int (132) 0), (.int (1) 0), (.int (0) 0), (.int (0) 0), (.int (3) 0), (.ref 272), (.bool true), (.int (181) 0), (.ref 273), .none, (.ref 274), (.ref 275), (.ref 276), (.int (547) 0), (.int (132) 0), (.str (Str.ofString "/claim/cut.py") 548)]), #[]⟩ ::
    ⟨(.type "function"), none, (.func ⟨(Str.ofString "_law_seen"), (Str.ofString "_law_seen"), argsOf (topS 43), .stmts (bodyOf (topS 43)), scopeOf (topS 43), 3, [], .none, .none, .none, (.str (Str.ofString "law_pc0194_01") 494), none, (.ref 277), .none, 0⟩), #[]⟩ ::
    ⟨(.type "tuple"), none, (.seq #[] 0), #[]⟩ ::
    ⟨.none, none, (.fields #[]), #[]⟩ ::
    ⟨(.type "tuple"), none, (.seq #[(.str (Str.ofString "kind") 553), (.str (Str.ofString "number") 554)] 0), #[]⟩ ::
    ⟨(.type "tuple"), none, (.seq #[] 0), #[]⟩ ::
    ⟨.none, none, (.func ⟨(Str.ofString "_law_as"), (Str.ofString "_law_as"), argsOf (topS 44), .stmts (bodyOf (topS 44)), scopeOf (topS 44), 0, [], .none, .none, .none, .none, none, .none, .none, 0⟩), #[]⟩ ::
    ⟨(.type "code"), none, (.fields #[(.str (Str.ofString "_law_as") 550), (.str (Str.ofString "_law_as") 551), (.str (Str.ofString "/claim/cut.py") 552), (.int (137) 0), (.int (2) 0), (.int (0) 0), (.int (0) 0), (.int (3) 0), (.ref 279), (.bool true), (.int (181) 0), (.ref 280), .none, (.ref 281), (.ref 282), (.ref 283), (.int (555) 0), (.int (137) 0), (.str (Str.ofString "/claim/cut.py") 556)]), #[]⟩ ::
    ⟨(.type "function"), none, (.func ⟨(Str.ofString "_law_as"), (Str.ofString "_law_as"), argsOf (topS 44), .stmts (bodyOf (topS 44)), scopeOf (topS 44), 3, [], .none, .none, .none, (.str (Str.ofString "law_pc0194_01") 494), none, (.ref 284), .none, 0⟩), #[]⟩ ::
    ⟨(.type "tuple"), none, (.seq #[] 0), #[]⟩ ::
    ⟨.none, none, (.fields #[]), #[]⟩ ::
    ⟨(.type "tuple"), none, (.seq #[(.str (Str.ofString "kind") 561), (.str (Str.ofString "number") 562), (.str (Str.ofString "low") 563), (.str (Str.ofString "high") 564)] 0), #[]⟩ ::
    ⟨(.type "tuple"), none, (.seq #[] 0), #[]⟩ ::
    ⟨.none, none, (.func ⟨(Str.ofString "_law_led"), (Str.ofString "_law_led"), argsOf (topS 45), .stmts (bodyOf (topS 45)), scopeOf (topS 45), 0, [], .none, .none, .none, .none, none, .none, .none, 0⟩), #[]⟩ ::
    ⟨(.type "code"), none, (.fields #[(.str (Str.ofString "_law_led") 558), (.str (Str.ofString "_law_led") 559), (.str (Str.ofString "/claim/cut.py") 560), (.int (139) 0), (.int (2) 0), (.int (0) 0), (.int (0) 0), (.int (3) 0), (.ref 286), (.bool true), (.int (181) 0), (.ref 287), .none, (.ref 288), (.ref 289), (.ref 290), (.int (565) 0), (.int (139) 0), (.str (Str.ofString "/claim/cut.py") 566)]), #[]⟩ ::
    ⟨(.type "function"), none, (.func ⟨(Str.ofString "_law_led"), (Str.ofString "_law_led"), argsOf (topS 45), .stmts (bodyOf (topS 45)), scopeOf (topS 45), 3, [], .none, .none, .none, (.str (Str.ofString "law_pc0194_01") 494), none, (.ref 291), .none, 0⟩), #[]⟩ ::
    ⟨(.type "tuple"), none, (.seq #[] 0), #[]⟩ ::
    ⟨.none, none, (.fields #[]), #[]⟩ ::
    ⟨.none, none, (.func ⟨(Str.ofString "_law_pair_right"), (Str.ofString "_law_pair_right"), argsOf (topS 46), .stmts (bodyOf (topS 46)), scopeOf (topS 46), 0, [], .none, .none, .none, .none, none, .none, .none, 0⟩), #[]⟩ ::
    ⟨(.type "code"), none, (.fields #[(.str (Str.ofString "_law_pair_right") 568), (.str (Str.ofString "_law_pair_right") 569), (.str (Str.ofString "/claim/cut.py") 570), (.int (142) 0), (.int (2) 0), (.int (0) 0), (.int (0) 0), (.int (3) 0), (.ref 293), (.bool true), (.int (181) 0), (.ref 294), .none, .none, .none, (.ref 295), (.int (571) 0), (.int (142) 0), (.str (Str.ofString "/claim/cut.py") 572)]), #[]⟩ ::
    ⟨(.type "function"), none, (.func ⟨(Str.ofString "_law_pair_right"), (Str.ofString "_law_pair_right"), argsOf (topS 46), .stmts (bodyOf (topS 46)), scopeOf (topS 46), 3, [], .none, .none, .none, (.str (Str.ofString "law_pc0194_01") 494), none, (.ref 296), .none, 0⟩), #[]⟩ ::
    ⟨(.type "tuple"), none, (.seq #[] 0), #[]⟩ ::
    ⟨.none, none, (.fields #[]), #[]⟩ ::
    ⟨(.type "tuple"), none, (.seq #[(.str (Str.ofString "value") 577), (.str (Str.ofString "kind") 578), (.str (Str.ofString "number") 579), (.str (Str.ofString "low") 580), (.str (Str.ofString "high") 581), (.str (Str.ofString "due") 582)] 0), #[]⟩ ::
    ⟨(.type "tuple"), none, (.seq #[(.str (Str.ofString "value") 583), (.str (Str.ofString "kind") 584)] 0), #[]⟩ ::
    ⟨.none, none, (.func ⟨(Str.ofString "_law_single_right"), (Str.ofString "_law_single_right"), argsOf (topS 47), .stmts (bodyOf (topS 47)), scopeOf (topS 47), 0, [], .none, .none, .none, .none, none, .none, .none, 0⟩), #[]⟩ ::
    ⟨(.type "code"), none, (.fields #[(.str (Str.ofString "_law_single_right") 574), (.str (Str.ofString "_law_single_right") 575), (.str (Str.ofString "/claim/cut.py") 576), (.int (159) 0), (.int (2) 0), (.int (0) 0), (.int (0) 0), (.int (3) 0), (.ref 298), (.bool true), (.int (181) 0), (.ref 299), .none, (.ref 300), (.ref 301), (.ref 302), (.int (585) 0), (.int (159) 0), (.str (Str.ofString "/claim/cut.py") 586)]), #[]⟩ ::
    ⟨(.type "function"), none, (.func ⟨(Str.ofString "_law_single_right"), (Str.ofString "_law_single_right"), argsOf (topS 47), .stmts (bodyOf (topS 47)), scopeOf (topS 47), 3, [], .none, .none, .none, (.str (Str.ofString "law_pc0194_01") 494), none, (.ref 303), .none, 0⟩), #[]⟩ ::
    ⟨(.type "tuple"), none, (.seq #[] 0), #[]⟩ ::
    ⟨.none, none, (.fields #[]), #[]⟩ ::
    ⟨.none, none, (.func ⟨(Str.ofString "law"), (Str.ofString "law"), argsOf (topS 48), .stmts (bodyOf (topS 48)), scopeOf (topS 48), 0, [], .none, .none, .none, .none, none, .none, .none, 0⟩), #[]⟩ ::
    ⟨(.type "code"), none, (.fields #[(.str (Str.ofString "law") 588), (.str (Str.ofString "law") 589), (.str (Str.ofString "/claim/cut.py") 590), (.int (164) 0), (.int (1) 0), (.int (0) 0), (.int (0) 0), (.int (3) 0), (.ref 305), (.bool true), (.int (181) 0), (.ref 306), .none, .none, .none, (.ref 307), (.int (591) 0), (.int (164) 0), (.str (Str.ofString "/claim/cut.py") 592)]), #[]⟩ ::
    ⟨(.type "function"), none, (.func ⟨(Str.ofString "law"), (Str.ofString "law"), argsOf (topS 48), .stmts (bodyOf (topS 48)), scopeOf (topS 48), 3, [], .none, .none, .none, (.str (Str.ofString "law_pc0194_01") 494), none, (.ref 308), .none, 0⟩), #[]⟩ :: []
/-- the heap behind the opening, behind 3 statements, behind 10, behind 11, behind 29, behind all -/
noncomputable def H0 (P : Params) : Heap := ⟨Array.mk (hA P ⟨.none, none, (.dict #[] 0), #[]⟩ (o3 (dA P (Str.ofString "__main__") 164 []) 9) (o12 []) []), {}⟩
noncomputable def H1 (P : Params) : Heap := ⟨Array.mk (hA P (o2 P) (o3 (dA P (Str.ofString "methodrows.errors") 187 (dB P [])) 11) (o12 (fB [])) (hB P [])), {}⟩
noncomputable def H2 (P : Params) : Heap := ⟨Array.mk (hA P (o2 P) (o3 (dA P (Str.ofString "methodrows.fixed") 285 (dB P (dC P []))) 16) (o12 (fB (fC []))) (hB P (hC P []))), {}⟩
noncomputable def H3 (P : Params) : Heap := ⟨Array.mk (hA P (o2 P) (o3 (dA P (Str.ofString "methodrows.fixed") 285 (dB P (dC P (dD P [])))) 17) (o12 (fB (fC []))) (hB P (hC P (hD P [])))), {}⟩
noncomputable def H4 (P : Params) : Heap := ⟨Array.mk (hA P (o2 P) (o3 (dA P (Str.ofString "methodrows.promote") 392 (dB P (dC P (dD P (dE P []))))) 34) (o12 (fB (fC (fE [])))) (hB P (hC P (hD P (hE P []))))), {}⟩
noncomputable def HF (P : Params) : Heap := ⟨Array.mk (hA P (o2 P) (o3 (dA P (Str.ofString "law_pc0194_01") 494 (dB P (dC P (dD P (dE P (dF P)))))) 53) (o12 (fB (fC (fE fF)))) (hB P (hC P (hD P (hE P (hF P)))))), {}⟩
noncomputable abbrev sOf (H : Params → Heap) (t : Nat) (w : World) (os : OsState) : Shared := ⟨H w.params, Array.mk [], ⟨0, 0, 0, 0⟩, t, os⟩
noncomputable abbrev s11 (w : World) (os : OsState) : Shared := sOf HF 594 w os
noncomputable abbrev bod : List Stmt := behindTheImports pg
noncomputable def st1 : List Stmt := bod.take 3
noncomputable def st2 : List Stmt := (bod.drop 3).take 7
noncomputable def st3 : List Stmt := (bod.drop 10).take 1
noncomputable def st4 : List Stmt := (bod.drop 11).take 18
noncomputable def st5 : List Stmt := bod.drop 29
noncomputable def env0 : Env := { scope := pg.main.scope, locals := mainNs, globals := mainNs, cells := [], code := .ref 13, frame := some 14 }
noncomputable abbrev cod : Code := .body bod env0
abbrev pz : Pos := ⟨0, 0, 0, 0⟩
abbrev p1 : Pos := ⟨8, 0, 12, 26⟩
abbrev p2 : Pos := ⟨24, 0, 24, 8⟩
abbrev p3 : Pos := ⟨25, 0, 25, 6⟩
abbrev p4 : Pos := ⟨74, 0, 78, 16⟩
abbrev p5 : Pos := ⟨164, 0, 181, 15⟩
abbrev an0 : Option Value := some (.ref 6)
section
open PySem.W.Fast
theorem go_0 (w : World) (os : OsState) : topGo treeTable pg w 11 an0 12 (s00 w os) (topStub pg) = some (sOf H0 187 w os, ⟨denote treeTable cod, cod, pz, [topFrame pz]⟩) := by
  rw [te15667345088766844465, te11892475500146522536]
  kernel_rfl
theorem go_b (w : World) (os : OsState) : segRun treeTable pg w 11 an0 1 1 (sOf H0 187 w os) (blockOf bod env0 cod pz [topFrame pz]) = some (.next, sOf H0 187 w os, cod, pz) := by
  unfold blockOf
  rw [te14374325043358763698, te1066825118222455980]
  kernel_rfl
theorem go_1 (w : World) (os : OsState) : segRun treeTable pg w 11 an0 1 500 (sOf H0 187 w os) (piecesOf st1 env0 cod pz [topFrame pz]) = some (.next, sOf H1 245 w os, cod, p1) := by
  unfold piecesOf
  rw [te14374325043358763698, te12563942051412417395]
  kernel_rfl
theorem go_2 (w : World) (os : OsState) : segRun treeTable pg w 11 an0 1 200 (sOf H1 245 w os) (piecesOf st2 env0 cod p1 [topFrame pz]) = some (.next, sOf H2 287 w os, cod, p2) := by
  unfold piecesOf
  rw [te14374325043358763698, te12563942051412417395]
  kernel_rfl
theorem go_3 (w : World) (os : OsState) : segRun treeTable pg w 11 an0 1 140 (sOf H2 287 w os) (piecesOf st3 env0 cod p2 [topFrame pz]) = some (.next, sOf H3 312 w os, cod, p3) := by
  have n : ∀ b, segRun treeTable pg (w.withFollow "special-get-raises" b) 11 an0 1 140 (sOf H2 287 w os) (piecesOf st3 env0 cod p2 [topFrame pz]) = some (.next, sOf H3 312 w os, cod, p3) := by
    intro b
    unfold piecesOf
    rw [te14374325043358763698, te12563942051412417395]
    cases b
    · kernel_rfl
    · kernel_rfl
  have e := World.withFollow_self w "special-get-raises"
  have r := n (w.params.followText "special-get-raises")
  rw [e] at r
  exact r
theorem go_4 (w : World) (os : OsState) : segRun treeTable pg w 11 an0 1 520 (sOf H3 312 w os) (piecesOf st4 env0 cod p3 [topFrame pz]) = some (.next, sOf H4 427 w os, cod, p4) := by
  unfold piecesOf
  rw [te14374325043358763698, te12563942051412417395]
  kernel_rfl
theorem go_5 (w : World) (os : OsState) : segRun treeTable pg w 11 an0 1 620 (sOf H4 427 w os) (piecesOf st5 env0 cod p4 [topFrame pz]) = some (.next, s11 w os, cod, p5) := by
  unfold piecesOf
  rw [te14374325043358763698, te12563942051412417395]
  kernel_rfl
theorem go_6 (w : World) (os : OsState) : topRun treeTable pg w 11 an0 2 (s11 w os) ⟨doneF .next, cod, p5, [topFrame pz]⟩ = some (s11 w os) := by
  rw [te14082659384304107361]
  kernel_rfl
theorem bod_is : bod = st1 ++ (st2 ++ (st3 ++ (st4 ++ (st5 ++ [])))) := by kernel_rfl
theorem run_is (w : World) (os : OsState) : topRun treeTable pg w 11 an0 (12 + (1 + (500 + (200 + (140 + (520 + (620 + 2))))))) (s00 w os) (topStub pg) = some (s11 w os) :=
  go_top (go_0 w os) (piece_block (go_b w os) (bod_is ▸ piece_app (go_1 w os) (piece_app (go_2 w os) (piece_app (go_3 w os) (piece_app (go_4 w os) (piece_app (rest := []) (go_5 w os) (piece_nil (go_6 w os))))))))
theorem kept_ (w : World) (os : OsState) : (staticsOk (importedModules pg.main.body) (s00 w os).heap (s11 w os).heap && namesBound pg (s11 w os).heap && gensDone (s11 w os) && laidKept (s00 w os).heap (s11 w os).heap) = true := by kernel_rfl
theorem fit_ (w : World) : ((boot_heap w.params).isNs mainGlobals && (Array.mk [] : Array GenState).size == 0, (boot_heap w.params).objs.size, (boot_heap w.params).nsMap mainGlobals "__annotations__") = (true, 11, an0) := by kernel_rfl
theorem see_1 (w : World) (os : OsState) : seen ((recsOf qv).map (·.name)) (ownsOf qv) [] { s11 w os with gens := #[] } = expectedOf qv := by
  unfold expectedOf
  rw [te5160383126252970620, te3399658132070893891, te5991557255702980513]
  kernel_rfl
theorem see_2 (w : World) (os : OsState) : (s11 w os).heap.bltView = bltViewBooted := by kernel_rfl
theorem see_3 (w : World) (os : OsState) : (s11 w os).heap.keysOk (looseW qv lo3) ((recsOf qv).map (·.name)) ((litsOf qv).map (·.1)) ((clssOf qv (looseW qv lo3)).map (·.name)) = true := by
  rw [te10880121769531294198, te821141287760084731, te3399658132070893891, te7409074990110511671, te13664370479719496447]
  kernel_rfl
theorem see_4 (w : World) (os : OsState) : (s11 w os).heap.accountedOkI (importedModules pg.main.body) = true := by
  rw [te14722251495701143533]
  kernel_rfl
theorem see_5 (w : World) (os : OsState) : (s11 w os).heap.isNs mainGlobals = true := by kernel_rfl
theorem see_6 (w : World) (os : OsState) : (s11 w os).heap.isNs builtinsNs = true := by kernel_rfl
theorem see_7 (w : World) (os : OsState) : tablesOk qv (s11 w os).heap = true := by
  rw [te10994771534591457954]
  kernel_rfl
theorem see_8 (w : World) (os : OsState) : Xt3 (s11 w os) = true := by kernel_rfl
theorem see_9 (w : World) (os : OsState) : tabsOk qv (s11 w os) = true := by
  rw [te479339242167458305]
  kernel_rfl
theorem see_10 (w : World) (os : OsState) : pinSeenD qv (drecsOf qv) (s11 w os) = pinGoodD (drecsOf qv) := by
  rw [te16090120013241838585]
  kernel_rfl
theorem see_11 (w : World) (os : OsState) : plainSeenE qv (looseW qv lo3) (s11 w os) = plainGoodE qv (looseW qv lo3) := by
  rw [te2386780881361962483, te821141287760084731]
  kernel_rfl
theorem see_12 (w : World) (os : OsState) : plainSeenD qv lo3 (s11 w os) = plainGoodD qv lo3 := by
  rw [te11698064438423848299]
  kernel_rfl
theorem see_13 (w : World) (os : OsState) : wideSeen qv (s11 w os) = wideGood qv := by
  rw [te7317090234206586261]
  kernel_rfl
theorem see_14 (w : World) (os : OsState) : clsSeenW qv lo3 (s11 w os) = clsGoodW qv lo3 := by
  rw [te7369524293546568484]
  kernel_rfl
theorem see_15 (w : World) (os : OsState) : Hook.obs HK (s11 w os) = Hook.val HK w := by kernel_rfl
theorem seen_ (w : World) (os : OsState) : (openSeen qv lo3 (importedModules pg.main.body) Xt3 true (s11 w os), Hook.obs HK (s11 w os)) = (openGood qv lo3, Hook.val HK w) := by
  refine looks_pair ?_ (see_15 w os)
  unfold openSeen openGood
  refine looks_pair (see_1 w os) (looks_pair (see_2 w os) (looks_pair ?_ (looks_pair (see_9 w os) (looks_pair (see_10 w os) (looks_pair (see_11 w os) (looks_pair (see_12 w os) (looks_pair (see_13 w os) (see_14 w os))))))))
  rw [see_3, see_4, see_5, see_6, see_7, see_8]
  rfl
theorem left_is : LeftO pg qv lo3 Xt3 (Hook.obs HK) (Hook.val HK) 3736 :=
  LeftO.of_pieces (gs₁ := Array.mk []) (d₁ := ⟨0, 0, 0, 0⟩) (k₁ := 594) (H₁ := HF) (boot_open (by kernel_rfl) (by decide) (fun s => by rfl)) fit_ run_is (by decide)
    (fun w => funext fun os => by
      rw [show (⟨HF w.params, Array.mk [], ⟨0, 0, 0, 0⟩, 594, os⟩ : Shared) = s11 w os from rfl]
      exact looks_pair (kept_ w os) (seen_ w os))
abbrev pR : Program := PySem.Challenge.rw_pc0194_01.row.prog
theorem out_1 : readsOut pR pR.main.body (Str.ofString "vars") = false := by
  rw [te13343964577679436407]
  kernel_rfl
theorem out_2 : readsOut pR pR.main.body (Str.ofString "dir") = false := by
  rw [te13343964577679436407]
  kernel_rfl
theorem out_3 : readsOut pR pR.main.body (Str.ofString "locals") = false := by
  rw [te13343964577679436407]
  kernel_rfl
theorem bare_ : (["vars", "dir", "locals"] : List Str).filter (readsOut pR pR.main.body) = [] := by
  have h1 : ¬readsOut pR pR.main.body (Str.ofString "vars") = true := by rw [out_1]; exact Bool.false_ne_true
  have h2 : ¬readsOut pR pR.main.body (Str.ofString "dir") = true := by rw [out_2]; exact Bool.false_ne_true
  have h3 : ¬readsOut pR pR.main.body (Str.ofString "locals") = true := by rw [out_3]; exact Bool.false_ne_true
  exact (List.filter_cons_of_neg h1).trans ((List.filter_cons_of_neg h2).trans ((List.filter_cons_of_neg h3).trans List.filter_nil))
theorem road_ : noRoadLSs { strict := !(importedModules pR.main.body).all cThrough.contains, foot := none, bare := (["vars", "dir", "locals"] : List Str).filter (readsOut pR pR.main.body) } pR.main.body = true := by
  rw [bare_, te8326940854005059898]
  kernel_rfl
theorem said_ : OpenLaw.wellSaid PySem.Challenge.rw_pc0194_01 = true := by
  unfold OpenLaw.wellSaid OpenRow.wellSaid OpenRow.partSaid looksOpen
  repeat' (with_reducible refine look_both ?_ ?_)
  all_goals first
    | with_reducible exact road_
    | ((try simp only [named_eq, te11788848310118352699, te12862048085361865435, te9807087744658564304, te8377067652309620493, te14412699480532031325, te18344453789297297638, te5923862056798008813, te13343964577679436407, te17691160309236699985, te8326940854005059898, te17119622794617984870, te17868728402115742887, te13582783067957832011, te5318747976498570220, te8179353310426384613, te9558739934217749035, te16286561074155671207, te6984425678791042302, te12879404354523853263, te482687673346738481, te10792542408131684335, te4857012375875476094, te2357444279172408678])
       (as_aux_lemma => kernel_rfl))
end
end
section
theorem fillk1 : (KF, PySem.Challenge.rw_pc0194_01) = (KF, PySem.Challenge.rw_pc0194_01) := by
  k_fill
  rfl
noncomputable abbrev Pr : Program := PySem.Challenge.pw_pc0194_01
noncomputable def Vw : Program := topProg
noncomputable def lo : List Str := looseW qv [Str.ofString "RowsError", Str.ofString "WIDTHS", Str.ofString "_law_row"] ++ (recsOf qv).map (·.name) ++ (litsOf qv).map (·.1) ++ (clssOf qv (looseW qv [Str.ofString "RowsError", Str.ofString "WIDTHS", Str.ofString "_law_row"])).map (·.name)
end
local macro_rules | `(tactic| k_room) => `(tactic| ((try simp only [depth_mark, depth_under_make, depth_under_kw, depth_in1, depth_deeper, depth_caller]); (try dsimp only [ktrTop]); omega))
section
abbrev Test (w : World) (mean : ExcName → Option Value) (mg mb : Str → Option Value) (f : Addr) (news : List (Addr × Obj)) (vs : List Value) : Prop :=
  ∀ (dp un : Nat) (gd : Option (List Code)) (cn : Str) (cs : Scope) (a : Addr) (ccd : Value) (cl : List (Str × Addr)) (outer : List Env) (A₀ : Around) (base h₀ : Heap) (L : Addr) (m : Str → Option Value) (s : Shared) (Q E : Value → Shared → Prop),
    Below A₀ base outer h₀ → Fr h₀ L s.heap m → (KF w.params).In h₀ → News h₀ L s.heap news → Top Vw lo mean mg mb h₀ → cs.kind = .function →
     dp + 12 < recursionLimit → un + 96 < cLine → (∀ v s', Q v s') →
      wpAny (model Pr w) (ktrTop dp un gd cn cs L a ccd cl outer) (call (.ref f) vs) Q E s
section
variable (w : World) (mean : ExcName → Option Value) (mg mb : Str → Option Value) (news : List (Addr × Obj)) (tk t1 t2 t3 : Tok) (kind : Str) (n : Int) (a b : Addr) (o : Obj)
theorem join_here {M : Program} {w : World} {A : Around} {E : Value → Shared → Prop} {s : Shared} {D : Addr} {ys : List Value} {l : List Str} {u : Str} {t : Tok} {Q : Value → Shared → Prop} (hl : s.heap.IsList D ys.toArray) (hc : CarriedAll ys (l.map PyData.str))
    (h1 : (l.all fun a => a.length == 1) = true) (hn : Nat.ble l.length 1048576 = true) (e : PySem.Txt.join (PySem.Str.ofString "") l = u)
    (h : ∀ t' k, Q (.str u t') { s with toks := k }) : wpAny (model M w) A (call (.builtin "str.join") [.str (PySem.Str.ofString "") t, .ref D]) Q E s := by
  subst e
  refine KT.join_1 (g := fun a => a) hl hc (fun a ha => by simpa using List.all_eq_true.mp h1 a ha) (Nat.le_of_ble_eq_true hn) fun t' k _ => ?_
  rw [List.map_id']
  exact h t' k
end
end
local macro_rules | `(tactic| walk_at "call builtin:str.join") => `(tactic| (k_here; (with_reducible rename CarriedAll _ (List.map _ _) => ktC); k_dflt (refine join_here (by assumption) ktC (by decide +kernel) (by decide +kernel) rfl ?_); intro _ _; clear ktC))
section
section
variable (w : World) (mean : ExcName → Option Value) (mg mb : Str → Option Value) (news : List (Addr × Obj)) (tk t1 t2 t3 : Tok) (kind : Str) (n : Int) (a b : Addr) (o : Obj)
end
end
local macro_rules | `(tactic| walk_at "call type:int") => `(tactic| (k_here; (with_reducible show wpAny _ _ (call (Value.type "int") [Value.str _ _]) _ _ _); k_dflt (refine KIN.call_text (by kin_val) (by decide +kernel) ?_)))
section
section
variable (w : World) (mean : ExcName → Option Value) (mg mb : Str → Option Value) (news : List (Addr × Obj)) (tk t1 t2 t3 : Tok) (kind : Str) (n : Int) (a b : Addr) (o : Obj)
end
end
local macro_rules | `(tactic| walk_at "binaryOp Pow int int") => `(tactic| (k_here; (with_reducible refine pow_int_small ?kb1 ?kb2 ?kb3 ?_); (case kb1 => decide); (case kb2 => decide); (case kb3 => decide)))
section
section
variable (w : World) (mean : ExcName → Option Value) (mg mb : Str → Option Value) (news : List (Addr × Obj)) (tk t1 t2 t3 : Tok) (kind : Str) (n : Int) (a b : Addr) (o : Obj)
abbrev CtT (w : World) (mean : ExcName → Option Value) (mg mb : Str → Option Value) (D U : Nat) (f : Addr) (vs : List Value) (ob : Tok → Tok → Tok → Obj) : Prop :=
  ∀ (dp un : Nat) (gd : Option (List Code)) (cn : Str) (cs : Scope) (a : Addr) (ccd : Value) (cl : List (Str × Addr)) (outer : List Env) (A₀ : Around) (base h₀ : Heap) (L : Addr) (m : Str → Option Value) (s : Shared) (news : List (Addr × Obj)) (Q E : Value → Shared → Prop),
    Below A₀ base outer h₀ → Fr h₀ L s.heap m → (KF w.params).In h₀ → News h₀ L s.heap news → Top Vw lo mean mg mb h₀ → cs.kind = .function →
     dp + D < recursionLimit → un + U < cLine → (∀ x h' tk t1 t2 t3, Fr h₀ L h' m → News h₀ L h' ((x, ob t1 t2 t3) :: news) → (∀ q ∈ news, q.1 < x) → Q (.ref x) { s with heap := h', toks := tk }) →
      wpAny (model Pr w) (ktrTop dp un gd cn cs L a ccd cl outer) (call (.ref f) vs) Q E s
abbrev CtV (w : World) (mean : ExcName → Option Value) (mg mb : Str → Option Value) (D U : Nat) (f : Addr) (vs : List Value) (v : Tok → Value) : Prop :=
  ∀ (dp un : Nat) (gd : Option (List Code)) (cn : Str) (cs : Scope) (a : Addr) (ccd : Value) (cl : List (Str × Addr)) (outer : List Env) (A₀ : Around) (base h₀ : Heap) (L : Addr) (m : Str → Option Value) (s : Shared) (news : List (Addr × Obj)) (Q E : Value → Shared → Prop),
    Below A₀ base outer h₀ → Fr h₀ L s.heap m → (KF w.params).In h₀ → News h₀ L s.heap news → Top Vw lo mean mg mb h₀ → cs.kind = .function →
     dp + D < recursionLimit → un + U < cLine → (∀ (t1 : Tok) (h' : Heap) (tk : Nat), Fr h₀ L h' m → News h₀ L h' news → Q (v t1) { s with heap := h', toks := tk }) →
      wpAny (model Pr w) (ktrTop dp un gd cn cs L a ccd cl outer) (call (.ref f) vs) Q E s
abbrev pairO (a : Int) (t1 : Tok) (b : Int) (t2 : Tok) : Obj := { cls := .type "tuple", data := .seq #[.int a t1, .int b t2] 0 }
@[reducible] def nm : Nat → Str
  | 0 => Str.ofString "Bool" | 1 => Str.ofString "Int8" | 2 => Str.ofString "UInt8" | 3 => Str.ofString "Int16" | 4 => Str.ofString "UInt16"
  | 5 => Str.ofString "Int32" | 6 => Str.ofString "UInt32" | 7 => Str.ofString "Int64" | 8 => Str.ofString "UInt64" | _ => Str.ofString "BigInt"
def lowZ : Nat → Int
  | 0 => 0 | 1 => -2 ^ Int.toNat (8 - 1) | 2 => 0 | 3 => -2 ^ Int.toNat (16 - 1) | 4 => 0 | 5 => -2 ^ Int.toNat (32 - 1) | 6 => 0 | 7 => -2 ^ Int.toNat (64 - 1) | 8 => 0 | _ => -10 ^ Int.toNat 1000
def highZ : Nat → Int
  | 0 => 1 | 1 => 2 ^ Int.toNat (8 - 1) - 1 | 2 => 2 ^ Int.toNat 8 - 1 | 3 => 2 ^ Int.toNat (16 - 1) - 1 | 4 => 2 ^ Int.toNat 16 - 1 | 5 => 2 ^ Int.toNat (32 - 1) - 1 | 6 => 2 ^ Int.toNat 32 - 1
  | 7 => 2 ^ Int.toNat (64 - 1) - 1 | 8 => 2 ^ Int.toNat 64 - 1 | _ => 10 ^ Int.toNat 1000
abbrev BoC (w : World) (mean : ExcName → Option Value) (mg mb : Str → Option Value) (i : Nat) (k : Str) (tk : Tok) : Prop := CtT w mean mg mb 12 96 264 [.str k tk] (fun t1 t2 _ => pairO (lowZ i) t1 (highZ i) t2)
theorem lt_of_news {g h : Heap} {L : Addr} {news : List (Addr × Obj)} (N : News g L h news) : ∀ q ∈ news, q.1 < h.objs.size := fun q hq => Heap.lt_size (N q hq).1
end
end
local macro_rules | `(tactic| walk_at "bo_tac") => `(tactic| (
  intro dp un gd cn cs a' ccd cl outer A₀ base h₀ L m s news Q E B F X N T hk hdp hu hret; refine wpAny_call ?_; (k_dflt cell_enter)
  k_steps
  exact hret _ _ _ _ _ 0 (by assumption) (by assumption) (by first | assumption | exact lt_of_news (by assumption))))
section
section
variable (w : World) (mean : ExcName → Option Value) (mg mb : Str → Option Value) (news : List (Addr × Obj)) (tk t1 t2 t3 : Tok) (kind : Str) (n : Int) (a b : Addr) (o : Obj)
theorem bo0 : BoC w mean mg mb 0 (Str.ofString "Bool") tk := by walk_at "bo_tac"
theorem bo1 : BoC w mean mg mb 1 (Str.ofString "Int8") tk := by walk_at "bo_tac"
theorem bo2 : BoC w mean mg mb 2 (Str.ofString "UInt8") tk := by walk_at "bo_tac"
theorem bo3 : BoC w mean mg mb 3 (Str.ofString "Int16") tk := by walk_at "bo_tac"
theorem bo4 : BoC w mean mg mb 4 (Str.ofString "UInt16") tk := by walk_at "bo_tac"
theorem bo5 : BoC w mean mg mb 5 (Str.ofString "Int32") tk := by walk_at "bo_tac"
theorem bo6 : BoC w mean mg mb 6 (Str.ofString "UInt32") tk := by walk_at "bo_tac"
theorem bo7 : BoC w mean mg mb 7 (Str.ofString "Int64") tk := by walk_at "bo_tac"
theorem bo8 : BoC w mean mg mb 8 (Str.ofString "UInt64") tk := by walk_at "bo_tac"
theorem bo9 : BoC w mean mg mb 9 (Str.ofString "BigInt") tk := by walk_at "bo_tac"
theorem bounds_c : ∀ i, i < 10 → CtT w mean mg mb 12 96 264 [.str (nm i) tk] (fun t1 t2 _ => pairO (lowZ i) t1 (highZ i) t2)
  | 0, _ => bo0 w mean mg mb tk | 1, _ => bo1 w mean mg mb tk | 2, _ => bo2 w mean mg mb tk | 3, _ => bo3 w mean mg mb tk | 4, _ => bo4 w mean mg mb tk
  | 5, _ => bo5 w mean mg mb tk | 6, _ => bo6 w mean mg mb tk | 7, _ => bo7 w mean mg mb tk | 8, _ => bo8 w mean mg mb tk | 9, _ => bo9 w mean mg mb tk
  | n + 10, h => absurd h (by omega)
section
variable {w : World} {mean : ExcName → Option Value} {mg mb : Str → Option Value} {D U : Nat} {f : Addr} {vs : List Value}
  {dp un : Nat} {gd : Option (List Code)} {cn : Str} {cs : Scope} {a : Addr} {ccd : Value} {cl : List (Str × Addr)} {outer : List Env} {A₀ : Around} {base h₀ : Heap} {L : Addr} {m : Str → Option Value} {s : Shared} {news : List (Addr × Obj)} {Q E : Value → Shared → Prop}
theorem use_T {ob : Tok → Tok → Tok → Obj} (C : CtT w mean mg mb D U f vs ob) (B : Below A₀ base outer h₀) (F : Fr h₀ L s.heap m) (X : (KF w.params).In h₀) (N : News h₀ L s.heap news) (T : Top Vw lo mean mg mb h₀) (hk : cs.kind = .function)
    (hd' : dp + D < recursionLimit) (hu : un + U < cLine) (h : ∀ x h' tk t1 t2 t3, Fr h₀ L h' m → News h₀ L h' ((x, ob t1 t2 t3) :: news) → (∀ q ∈ news, q.1 < x) → Q (.ref x) { s with heap := h', toks := tk }) :
    wpAny (model Pr w) (ktrTop dp un gd cn cs L a ccd cl outer) (call (.ref f) vs) Q E s := C _ _ _ _ _ _ _ _ _ _ _ _ _ _ _ _ _ _ B F X N T hk hd' hu h
theorem use_V {v : Tok → Value} (C : CtV w mean mg mb D U f vs v) (B : Below A₀ base outer h₀) (F : Fr h₀ L s.heap m) (X : (KF w.params).In h₀) (N : News h₀ L s.heap news) (T : Top Vw lo mean mg mb h₀) (hk : cs.kind = .function)
    (hd' : dp + D < recursionLimit) (hu : un + U < cLine) (h : ∀ (t1 : Tok) (h' : Heap) (tk : Nat), Fr h₀ L h' m → News h₀ L h' news → Q (v t1) { s with heap := h', toks := tk }) :
    wpAny (model Pr w) (ktrTop dp un gd cn cs L a ccd cl outer) (call (.ref f) vs) Q E s := C _ _ _ _ _ _ _ _ _ _ _ _ _ _ _ _ _ _ B F X N T hk hd' hu h
end
end
end
local macro_rules | `(tactic| walk_at "use_args") => `(tactic| ((case B => k_asm); (case F => k_asm); (case X => k_in); (case N => k_asm); (case T => k_asm); (case hk => first | exact rfl | (dsimp only [envX]; assumption)); (case dp => k_room); (case un => k_room)))
section
section
variable (w : World) (mean : ExcName → Option Value) (mg mb : Str → Option Value) (news : List (Addr × Obj)) (tk t1 t2 t3 : Tok) (kind : Str) (n : Int) (a b : Addr) (o : Obj)
end
end
local macro_rules | `(tactic| walk_at "ra_tac") => `(tactic| (
  intro dp un gd cn cs a' ccd cl outer A₀ base h₀ L m s news Q E B F X N T hk hdp hu hret; refine wpAny_call ?_; (k_dflt cell_enter)
  k_steps
  exact hret _ _ _ _ _ 0 (by assumption) (by assumption) (by first | assumption | exact lt_of_news (by assumption))))
section
section
variable (w : World) (mean : ExcName → Option Value) (mg mb : Str → Option Value) (news : List (Addr × Obj)) (tk t1 t2 t3 : Tok) (kind : Str) (n : Int) (a b : Addr) (o : Obj)
def lowF : Nat → Int
  | 1 => 0 - 2 ^ Int.toNat (8 - 1) | 2 => 0 | 3 => 0 - 2 ^ Int.toNat (16 - 1) | 4 => 0 | 5 => 0 - 2 ^ Int.toNat (32 - 1) | 6 => 0 | 7 => 0 - 2 ^ Int.toNat (64 - 1) | 8 => 0 | _ => 1 - 2 ^ Int.toNat 4000
def highF : Nat → Int
  | 1 => 2 ^ Int.toNat (8 - 1) - 1 | 2 => 2 ^ Int.toNat 8 - 1 | 3 => 2 ^ Int.toNat (16 - 1) - 1 | 4 => 2 ^ Int.toNat 16 - 1 | 5 => 2 ^ Int.toNat (32 - 1) - 1 | 6 => 2 ^ Int.toNat 32 - 1
  | 7 => 2 ^ Int.toNat (64 - 1) - 1 | 8 => 2 ^ Int.toNat 64 - 1 | _ => 2 ^ Int.toNat 4000 - 1
def wrapZ : Nat → Int → Int
  | 1, n => if 2 ^ Int.toNat (8 - 1) ≤ n.fmod (2 ^ Int.toNat 8) then n.fmod (2 ^ Int.toNat 8) - 2 ^ Int.toNat 8 else n.fmod (2 ^ Int.toNat 8)
  | 2, n => n.fmod (2 ^ Int.toNat 8)
  | 3, n => if 2 ^ Int.toNat (16 - 1) ≤ n.fmod (2 ^ Int.toNat 16) then n.fmod (2 ^ Int.toNat 16) - 2 ^ Int.toNat 16 else n.fmod (2 ^ Int.toNat 16)
  | 4, n => n.fmod (2 ^ Int.toNat 16)
  | 5, n => if 2 ^ Int.toNat (32 - 1) ≤ n.fmod (2 ^ Int.toNat 32) then n.fmod (2 ^ Int.toNat 32) - 2 ^ Int.toNat 32 else n.fmod (2 ^ Int.toNat 32)
  | 6, n => n.fmod (2 ^ Int.toNat 32)
  | 7, n => if 2 ^ Int.toNat (64 - 1) ≤ n.fmod (2 ^ Int.toNat 64) then n.fmod (2 ^ Int.toNat 64) - 2 ^ Int.toNat 64 else n.fmod (2 ^ Int.toNat 64)
  | 8, n => n.fmod (2 ^ Int.toNat 64)
  | _, n => n
def ledZ : Nat → Int → Int
  | 9, n => n
  | i, n => (n - lowZ i).fmod (highZ i - lowZ i + 1) + lowZ i
def rkA : Nat → Int
  | 0 => 0 | 1 => 8 | 2 => 8 | 3 => 16 | 4 => 16 | 5 => 32 | 6 => 32 | 7 => 64 | 8 => 64 | _ => 4000
def rkB : Nat → Int
  | 2 => 1 | 4 => 1 | 6 => 1 | 8 => 1 | _ => 0
theorem ra0 : CtT w mean mg mb 12 96 174 [.str (Str.ofString "Bool") tk] (fun t1 t2 _ => pairO (rkA 0) t1 (rkB 0) t2) := by walk_at "ra_tac"
theorem drop1 {g h : Heap} {L : Addr} {p : Addr × Obj} {news : List (Addr × Obj)} (N : News g L h (p :: news)) : News g L h news := fun q hq => N q (List.mem_cons_of_mem _ hq)
end
abbrev bmT : List Value := [.ref 32, .type "Exception", .type "BaseException", .type "object"]
abbrev clsT : Obj := excClassObj (Str.ofString "Thrown") (Str.ofString "Thrown") 52 51 [.ref 32] bmT true [] [] false none none (some (.ref 36)) none (some (.str (Str.ofString "Thrown") 220)) (some (.str (Str.ofString "Thrown") 228)) (some (.bool true)) "Exception.__new__"
theorem c52 {w : World} {h : Heap} (X : (KF w.params).In h) : h.get? 52 = some clsT := X _ _ (by rfl)
theorem lk_init {w : World} {h : Heap} (X : (KF w.params).In h) : Looks (model Pr w) h (typeLookup (.ref 52) "__init__") (some (.ref 49)) := Looks.of_peek X (by with_unfolding_all rfl)
theorem lk_call {w : World} {h : Heap} (X : (KF w.params).In h) : Looks (model Pr w) h (specialOf (.ref 52) "__call__") (some (.builtin "type.__call__")) := looks_specialIn X (by k_is)
theorem lk_typ {w : World} {h : Heap} (X : (KF w.params).In h) : Looks (model Pr w) h (isInstance (.ref 52) (.type "type")) true := looks_instIn X (by k_is)
theorem lk_bind {w : World} {h : Heap} (X : (KF w.params).In h) (self : Value) : Looks (model Pr w) h (bindSpecial (.ref 49) self) (.ref 49, [self]) := bind_fn X self (by k_is)
abbrev excO (t : Addr) : Obj := { cls := .ref 52, data := .fields #[.ref t, .none, .none, .none, .bool false, .none] }
abbrev tupO (l : List Value) : Obj := { cls := .type "tuple", data := .seq l.toArray }
theorem new52 {w : World} {A : Around} {R : Result → Shared → Prop} {h : Heap} {g : Array GenState} {d : Drawn} {t : Nat} {os : OsState} {v : Value} (X : (KF w.params).In h)
   (hq : R (.ok (.ret (.ref (h.objs.size + 1)))) ⟨(h.push (tupO [v])).push (excO h.objs.size), g, d, t, os⟩) :
    codeAny (model Pr w) A (.builtin "Exception.__new__" ⟨[.ref 52, v], []⟩) R ⟨h, g, d, t, os⟩ := by
  have hC := c52 X
  have F := PySem.F.excBase_Exception
  have hends := F.ends
  have hcB : (Value.ref 52 :: bmT).contains (.type "Exception") = true := by decide +kernel
  have hcA : (Value.ref 52 :: bmT).contains (.type "AttributeError") = false := by decide +kernel
  have hcN : (Value.ref 52 :: bmT).contains (.type "NameError") = false := by decide +kernel
  refine codeAny_builtinAt F.entry ?_
  unfold Builtin.«BaseException.__new__»
  refine PySem.wpAt_bind ?_
  show PySem.wpAt _ _ _ (stack >>= _) _ _ _
  refine PySem.wpAt_bind (PySem.wpAt_stack fun p below => PySem.wpAt_of_wpAny ?_)
  wp_walk
  refine PySem.wpAt_of_wpAny ?_
  rw [F.owner]
  have hrest : [v].length ≤ sizeLine := by size_fits
  repeat (first | with_reducible refine wpAny_madeHere_exc F.canon hC ?_ | with_reducible refine wpAny_loadPart_at hC ?_ | (with_reducible refine wpAny_isSubtype_exc hC ?_; first | rw [hcB] | rw [hcA] | rw [hcN]) | wp_step)
  show R _ _
  rw [Heap.size_push]
  exact hq
theorem make52 {w : World} {A : Around} {R : Result → Shared → Prop} {h : Heap} {g : Array GenState} {d : Drawn} {t : Nat} {os : OsState} {v : Value} (X : (KF w.params).In h)
   (hq : codeAny (model Pr w) (A.under (.builtin "type.__call__" ⟨[.ref 52, v], []⟩)) (.call (.ref 49) ⟨[.ref (h.objs.size + 1), v], []⟩) (InitBack (h.objs.size + 1) R) ⟨(h.push (tupO [v])).push (excO h.objs.size), g, d, t, os⟩) :
    codeAny (model Pr w) A (.call (.ref 52) ⟨[v], []⟩) R ⟨h, g, d, t, os⟩ := by
  have hC := c52 X
  have F := PySem.F.excBase_Exception
  have call := lk_call X
  have typ := lk_typ X
  refine codeAny_of_tree ?_
  show wpAny _ _ (callAny (.ref 52) _) _ _ _
  refine nd_load hC ?_
  show wpAny _ _ (callAny.viaDunder (.ref 52) _) _ _ _
  unfold callAny.viaDunder
  refine wpAny_bind (call.at ?_)
  dsimp only
  rw [tc_bind]
  refine wpAny_bind (wpAny_pure (wpAny_bind (wpAny_pure ?_)))
  refine wpAny_pure (a := Fin.again (.call (.builtin "type.__call__") ⟨[.ref 52, v], []⟩)) (And.intro rfl ?_)
  refine codeAny_call_builtin_at (Code.quiet_builtin _ (by decide +kernel)) entry_typeCall (check_slot tc_kind tc_split typ (tc_args _ _ _) ?_)
  repeat (first | with_reducible refine wpAny_loadPart_at hC ?_ | with_reducible refine wpAny_madeBy_exc hC ?_ | wp_step)
  refine codeAny_call_builtin_code (Code.quiet_builtin _ F.quiet) (wpAny_check_new_subU F (by decide +kernel) (bmB := bmT) .base hC ?_)
  refine new52 X ?_
  show wpAny _ _ _ _ _ _
  have k : ∀ b o, h.get? b = some o → ((h.push (tupO [v])).push (excO h.objs.size)).get? b = some o := fun b o e => Heap.get?_push_of_some _ (Heap.get?_push_of_some _ e)
  have hx : ((h.push (tupO [v])).push (excO h.objs.size)).get? (h.objs.size + 1) = some (excO h.objs.size) := by heap_get
  have t1 : Looks (model Pr w) ((h.push (tupO [v])).push (excO h.objs.size)) (typeOf (.ref (h.objs.size + 1))) (.ref 52) := (Looks.ld hx).andThen .now
  have s1 : Looks (model Pr w) ((h.push (tupO [v])).push (excO h.objs.size)) (isSubtype (.ref 52) (.ref 52)) true := looks_mroIn (fun b o e => k b o (X b o e)) (by k_is)
  have i1 := (lk_init X).keeps k
  have b1 := (lk_bind X (.ref (h.objs.size + 1))).keeps k
  unfold isInstance callSpecial? specialOf
  repeat (first | with_reducible refine wpAny_call ?_ | lk)
  refine codeAny_mono hq fun r s' z => ?_
  rcases r with e | (v | _ | _ | _) <;> first | exact z | exact z.elim | skip
  obtain ⟨rfl, z⟩ := z
  exact wpAny_pure (wpAny_pure z)
theorem call52 {w : World} {A : Around} {E : Value → Shared → Prop} {s : Shared} {h₀ : Heap} {L : Addr} {m : Str → Option Value} {news : List (Addr × Obj)} {v : Value} {Q : Value → Shared → Prop}
    (F : Fr h₀ L s.heap m) (X₀ : (KF w.params).In h₀) (N : News h₀ L s.heap news)
    (h : ∀ e t h', Fr h₀ L h' m → News h₀ L h' ((e, excO t) :: (t, tupO [v]) :: news) → (∀ p ∈ news, p.1 < t) → t < e →
      codeAny (model Pr w) (A.under (.builtin "type.__call__" ⟨[.ref 52, v], []⟩)) (.call (.ref 49) ⟨[.ref e, v], []⟩) (InitBack e fun r s' => match r with | .ok (.ret v) => Q v s' | .ok _ => False | .error e => E e s') { s with heap := h' }) :
    wpAny (model Pr w) A (call (.ref 52) [v] []) Q E s := by
  obtain ⟨hh, g, d, t, os⟩ := s
  refine wpAny_call (make52 (X₀.keeps F.keep) (h _ hh.objs.size _ ((F.push _).push _) ?_ (fun p hp => Heap.lt_size (N p hp).1) (Nat.lt_succ_self _)))
  have := (N.push F (tupO [v])).push (F.push _) (excO hh.objs.size)
  rwa [Heap.size_push] at this
abbrev excD (t dx : Addr) : Obj := { cls := .ref 52, dict := some dx, data := .fields #[.ref t, .none, .none, .none, .bool false, .none] }
section
variable {w : World} {A : Around} {E : Value → Shared → Prop} {s : Shared} {h₀ : Heap} {L e t0 dx : Addr} {m : Str → Option Value} {rest news : List (Addr × Obj)} {v : Value} {Q : Value → Shared → Prop}
theorem check52 {M : Model} {hh : Heap} {g : Array GenState} {d : Drawn} {t : Nat} {os : OsState} {oe : Obj} {Q : Unit → Shared → Prop} (X : (KF w.params).In hh) (he : hh.get? e = some oe) (hcls : oe.cls = .ref 52) (hq : Q () ⟨hh, g, d, t, os⟩) :
    wpAny M A (checkBuiltinCall "Exception.__init__" ⟨[.ref e, v], []⟩) Q E ⟨hh, g, d, t, os⟩ := by
  have hC := c52 X
  have F := PySem.F.excBase_Exception
  have hcB : (Value.ref 52 :: bmT).contains (.type "Exception") = true := by decide +kernel
  have hshort := F.noStar
  simp only [checkBuiltinCall, F.initKind, F.initSplit, F.initRow]
  repeat (first | (with_reducible refine wpAny_loadPart_at he ?_; rw [hcls]) | with_reducible refine wpAny_loadPart_at hC ?_ | (with_reducible refine wpAny_isSubtype_exc hC ?_; rw [hcB]) | wp_step)
  exact hq
theorem exc_init (F : Fr h₀ L s.heap m) (X₀ : (KF w.params).In h₀) (N : News h₀ L s.heap ((e, excO t0) :: rest)) (hne : ∀ p ∈ rest, p.1 ≠ e)
    (h : ∀ t h', Fr h₀ L h' m → News h₀ L h' ((e, excO t) :: (t, tupO [v]) :: rest) → (∀ p ∈ rest, p.1 < t) → e < t → Q .none { s with heap := h' }) :
    wpAny (model Pr w) A (call (.builtin "Exception.__init__") [.ref e, v] []) Q E s := by
  obtain ⟨hh, g, d, t, os⟩ := s
  have FB := PySem.F.excBase_Exception
  have he := (N _ (.head _)).1
  refine wpAny_call (codeAny_call_builtin FB.init.plain FB.initEntry (check52 (X₀.keeps F.keep) he rfl ?_))
  unfold Builtin.«BaseException.__init__»
  wp_walk
  have N1 := N.push F (tupO [v])
  have N2 : News h₀ L (hh.push (tupO [v])) ([] ++ (e, excO t0) :: (hh.objs.size, tupO [v]) :: rest) := fun p hp => by
    rcases List.mem_cons.mp hp with rfl | hp
    · exact N1 _ (.tail _ (.head _))
    · rcases List.mem_cons.mp hp with rfl | hp
      · exact N1 _ (.head _)
      · exact N1 _ (.tail _ (.tail _ hp))
  have ls := Heap.lt_size he
  obtain ⟨U1, U2⟩ := news_upd (o' := excO hh.objs.size) (f := Obj.mapFields fun x => x.setIfInBounds 0 (Value.ref hh.objs.size)) (F.push (tupO [v])) N2 (fun _ hp => (nomatch hp)) (fun p hp => by
    rcases List.mem_cons.mp hp with rfl | hp
    · exact Nat.ne_of_gt ls
    · exact hne p hp) rfl rfl
  exact h hh.objs.size _ U1 U2 (fun p hp => Heap.lt_size (N p (.tail _ hp)).1) ls
/-- an attribute is stored upon the exception: its dict is there or is made -/
theorem sa_open52 {vs : Array Value} {dd : Option Addr} {od : Option Obj} {name : Str} {tk : Tok} {R : Result → Shared → Prop} (X : (KF w.params).In s.heap) (I : InstAt s.heap e { cls := .ref 52, dict := dd, data := .fields vs } 52 od)
    (hl : findIn (KF w.params) (.ref 52) name = some none)
    (h : wpAny (model Pr w) A.in1 (PySem.Builtin.ObjectAttr.storeInOwnDict (.ref e) (.ref 52) (.str name tk) name v false)
      (fun fin s' => match fin with | .done f => R (.ok f) s' | .again c' => c'.quiet = true ∧ codeAny (model Pr w) A c' R s') (fun e s' => R (.error e) s') s) :
    codeAny (model Pr w) A (.call (.builtin "object.__setattr__") ⟨[.ref e, .str name tk, v], []⟩) R s := by
  have SF := PySem.F.store_object
  have SE := PySem.F.store_Exception
  have sub : Looks (model Pr w) s.heap (isInstance (.ref e) (.type "object")) true := I.type.andThen (looks_mroIn X (by k_is))
  refine codeAny_call_builtin SF.slot.plain SF.entry (@check_slot (model Pr w) _ _ s "object.__setattr__" "object" "__setattr__" (.ref e) [.str name tk, v] [] _ SF.kind SF.split sub (SF.args (.ref e) (.str name tk) v) ?_)
  have hm : Looks (model Pr w) s.heap (mroOf (.ref 52)) (.ref 52 :: bmT) := Looks.of_peek X (by with_unfolding_all rfl)
  rw [osa_eq, refuse_eq]
  refine wpAny_bind (wpAny_bind (I.type.here (wpAny_bind (hm.here ?_))))
  rw [refuseLoop_ref, refuseLoop_ref, SE.passes]
  refine wpAny_pure (wpAny_bind (I.type.here (wpAny_bind ((looks_findIn X hl).here (wpAny_bind ?_)))))
  exact wpAny_pure h
theorem set_open52 {vs : Array Value} {dd : Option Addr} {od : Option Obj} {name : Str} {Q : Unit → Shared → Prop} (X : (KF w.params).In s.heap) (I : InstAt s.heap e { cls := .ref 52, dict := dd, data := .fields vs } 52 od)
    (hl : findIn (KF w.params) (.ref 52) name = some none)
    (h : wpAny (model Pr w) A.in1 (PySem.Builtin.ObjectAttr.storeInOwnDict (.ref e) (.ref 52) (.str name s.toks) name v false)
      (fun fin s' => match fin with | .done (.ret _) => Q () s' | _ => False) (fun e s' => E e s') { s with toks := s.toks + 1 }) :
    wpAny (model Pr w) A (setAttr (.ref e) name v) Q E s := by
  have hs : findIn (KF w.params) (.ref 52) "__setattr__" = some (some (.builtin "object.__setattr__")) := by k_is
  refine wpAny_bind (wpAny_mkText (wpAny_bind (wpAny_bind (wpAny_bind (I.type _ _ _ _ (fun _ _ e => e) (looks_findIn X hs _ _ _ _ (fun _ _ e => e) (wpAny_holding ?_)))))))
  rw [PySem.F.store_object.slot.bind]
  refine wpAny_bind (wpAny_pure (wpAny_bind (wpAny_call (sa_open52 (s := { s with toks := s.toks + 1 }) X I hl (wpAny_mono h (fun fin s' z => ?_) fun _ _ z => z)))))
  rcases fin with (_ | _ | _ | _) | _ <;> first | exact z.elim | exact wpAny_pure (wpAny_pure z)
theorem store_dict {dx : Addr} {es es' : List DictEntry} {n n' : Nat} {pre post : List (Addr × Obj)} {name : Str} {tk : Tok} {Q : Fin → Shared → Prop} (F : Fr h₀ L s.heap m) (N : News h₀ L s.heap (pre ++ (dx, dictOf es n) :: post))
    (h1 : ∀ p ∈ pre, p.1 ≠ dx) (h2 : ∀ p ∈ post, p.1 ≠ dx) (hl : es.any (·.refKey) = false)
    (e : (putL name (PyData.keyHash w.params name) (.str name s.toks) v es, putN name es n) = (es', n')) (hz : es'.length ≤ 1000)
    (h : ∀ h', Fr h₀ L h' m → News h₀ L h' (pre ++ (dx, dictOf es' n') :: post) → Q (.done (.ret .none)) { s with heap := h', toks := s.toks + 1 }) :
    wpAny (model Pr w) A (PySem.Builtin.ObjectAttr.storeInDict dx (.str name tk) name v) Q E s := by
  obtain ⟨e1, e2⟩ := Prod.mk.inj e
  obtain ⟨U1, U2⟩ := news_upd (f := Obj.putName name (PyData.keyHash w.params name) (.str name s.toks) v) (o' := dictOf es' n') F N h1 h2 (by rw [putName_dict, e1, e2]) rfl
  have D := (N (dx, dictOf es n) (by simp)).1
  have D' := (U2 (dx, dictOf es' n') (by simp)).1
  unfold PySem.Builtin.ObjectAttr.storeInDict PySem.Builtin.ObjectAttr.newKeyGuard
  refine wpAny_bind (wpAny_pure ?_)
  unfold nsSet
  refine wpAny_bind (wpAny_bind (wpAny_bind (wpAny_askSetting (wpAny_pure (wpAny_bind (wpAny_mkText (wpAny_bind (wpAny_loadPart D ?_))))))))
  dsimp only
  have c : (!es.toArray.any (·.key.isStr name) && es.toArray.any (·.refKey)) = false := by
    rw [← Array.any_toList, ← Array.any_toList, hl, Bool.and_false]
  rw [aRefKeyMayBeTheName_at, c]
  refine wpAny_updatePart D ?_
  refine wpAny_bind (wpAny_lookBehind D' (pastItsLine_dict (by rw [List.size_toArray, sizeLine_eq]; omega)) ?_)
  exact wpAny_pure (h _ U1 U2)
theorem set_first {t : Addr} {name : Str} {Q : Unit → Shared → Prop} (F : Fr h₀ L s.heap m) (X₀ : (KF w.params).In h₀) (N : News h₀ L s.heap ((e, excO t) :: rest)) (hne : ∀ p ∈ rest, p.1 ≠ e)
    (hl : findIn (KF w.params) (.ref 52) name = some none)
    (h : ∀ dx h' tk tk', Fr h₀ L h' m → News h₀ L h' ((e, excD t dx) :: (dx, dictOf [⟨PyData.keyHash w.params name, .str name tk, v⟩] 1) :: rest) → (∀ p ∈ rest, p.1 < dx) → e < dx → Q () { s with heap := h', toks := tk' }) :
    wpAny (model Pr w) A (setAttr (.ref e) name v) Q E s := by
  obtain ⟨hh, g, d, tk, os⟩ := s
  have X : (KF w.params).In hh := X₀.keeps F.keep
  have he : hh.get? e = some (excO t) := (N _ (.head _)).1
  refine set_open52 (od := none) X ⟨he, rfl, rfl, trivial⟩ hl ?_
  show wpAny _ _ _ _ _ ⟨hh, g, d, tk + 1, os⟩
  have hc : clsIn (KF w.params) 52 = some { name := (Str.ofString "Thrown"), bases := [.ref 32], mro := .ref 52 :: bmT, ns := 51, qualname := (Str.ofString "Thrown"), hasDict := true, slotNames := [], subclasses := [], abstract := false, collection := none, hasDel := false } := by with_unfolding_all rfl
  refine wpAny_bind (wpAny_pure (wpAny_bind (wpAny_bind (wpAny_loadPart_at he (wpAny_bind ((looks_clsIn X hc).at ?_))))))
  have ls := Heap.lt_size he
  have he1 : (hh.push { cls := .type "dict", data := .dict #[] }).get? e = some (excO t) := Heap.get?_push_of_some _ he
  refine wpAny_bind (wpAny_alloc' (wpAny_bind (wpAny_update' he1 ?_)))
  refine wpAny_pure ?_
  have P := F.push { cls := .type "dict", data := .dict #[] }
  have N1 := N.push F { cls := .type "dict", data := .dict #[] }
  have N2 : News h₀ L (hh.push { cls := .type "dict", data := .dict #[] }) ([] ++ (e, excO t) :: (hh.objs.size, dictOf [] 0) :: rest) := fun p hp => by
    rcases List.mem_cons.mp hp with rfl | hp
    · exact N1 _ (.tail _ (.head _))
    · rcases List.mem_cons.mp hp with rfl | hp
      · exact N1 _ (.head _)
      · exact N1 _ (.tail _ (.tail _ hp))
  obtain ⟨U1, U2⟩ := news_upd (o' := excD t hh.objs.size) (f := fun o => { cls := o.cls, dict := some hh.objs.size, data := o.data, slots := o.slots }) P N2 (fun _ hp => (nomatch hp)) (fun p hp => by
    rcases List.mem_cons.mp hp with rfl | hp
    · exact Nat.ne_of_gt ls
    · exact hne p hp) rfl rfl
  have lr : ∀ p ∈ rest, p.1 < hh.objs.size := fun p hp => Heap.lt_size (N p (.tail _ hp)).1
  refine store_dict (pre := [(e, excD t hh.objs.size)]) (post := rest) (es' := [⟨PyData.keyHash w.params name, .str name (tk + 1), v⟩]) (n' := 1) U1 U2 (fun p hp => by cases hp with | head => exact Nat.ne_of_lt ls | tail _ q => cases q) (fun p hp => Nat.ne_of_lt (lr p hp)) rfl rfl (by simp) ?_
  intro h' F' N'
  exact h _ h' _ _ F' N' lr ls
theorem putL_new {name : Str} {hsh : Int} {key v : Value} : ∀ {es : List DictEntry}, es.all (fun e => !e.key.isStr name) = true → putL name hsh key v es = es ++ [⟨hsh, key, v⟩]
  | [], _ => rfl
  | e :: r, h => by
    rw [List.all_cons, Bool.and_eq_true, Bool.not_eq_true'] at h
    rw [putL, h.1, if_neg (by decide), putL_new h.2]
    rfl
theorem putN_new {name : Str} {es : List DictEntry} {n : Nat} (h : es.all (fun e => !e.key.isStr name) = true) : putN name es n = n + 1 := by
  unfold putN
  have : es.any (·.key.isStr name) = false := by
    rw [List.any_eq_false]
    intro x hx
    have := List.all_eq_true.mp h x hx
    simpa using this
  rw [this, if_neg (by decide)]
theorem set_next {t : Addr} {name : Str} {es : List DictEntry} {n : Nat} {Q : Unit → Shared → Prop} (F : Fr h₀ L s.heap m) (X₀ : (KF w.params).In h₀) (N : News h₀ L s.heap ((e, excD t dx) :: (dx, dictOf es n) :: rest)) (hed : e ≠ dx) (hne : ∀ p ∈ rest, p.1 ≠ dx)
    (hl : findIn (KF w.params) (.ref 52) name = some none) (hr : es.any (·.refKey) = false) (he' : es.all (fun e => !e.key.isStr name) = true) (hz : es.length ≤ 900)
    (h : ∀ h' tk tk', Fr h₀ L h' m → News h₀ L h' ((e, excD t dx) :: (dx, dictOf (es ++ [⟨PyData.keyHash w.params name, .str name tk, v⟩]) (n + 1)) :: rest) → Q () { s with heap := h', toks := tk' }) :
    wpAny (model Pr w) A (setAttr (.ref e) name v) Q E s := by
  obtain ⟨hh, g, d, tk, os⟩ := s
  have X : (KF w.params).In hh := X₀.keeps F.keep
  have he : hh.get? e = some (excD t dx) := (N _ (.head _)).1
  have hd' : hh.get? dx = some (dictOf es n) := (N _ (.tail _ (.head _))).1
  refine set_open52 (od := some (dictOf es n)) X ⟨he, rfl, rfl, hd'⟩ hl ?_
  show wpAny _ _ _ _ _ ⟨hh, g, d, tk + 1, os⟩
  have hc : clsIn (KF w.params) 52 = some { name := (Str.ofString "Thrown"), bases := [.ref 32], mro := .ref 52 :: bmT, ns := 51, qualname := (Str.ofString "Thrown"), hasDict := true, slotNames := [], subclasses := [], abstract := false, collection := none, hasDel := false } := by with_unfolding_all rfl
  refine wpAny_bind (wpAny_pure (wpAny_bind (wpAny_bind (wpAny_loadPart_at he (wpAny_bind ((looks_clsIn X hc).at ?_))))))
  refine wpAny_pure ?_
  refine store_dict (pre := [(e, excD t dx)]) (post := rest) F N (fun p hp => by cases hp with | head => exact hed | tail _ q => cases q) hne hr (by rw [putL_new he', putN_new he']) (by simp; omega) ?_
  intro h' F' N'
  exact h h' _ _ F' N'
theorem set_second {t : Addr} {name : Str} {x : DictEntry} {n : Nat} {Q : Unit → Shared → Prop} (F : Fr h₀ L s.heap m) (X₀ : (KF w.params).In h₀) (N : News h₀ L s.heap ((e, excD t dx) :: (dx, dictOf [x] n) :: rest)) (hed : e ≠ dx) (hne : ∀ p ∈ rest, p.1 ≠ dx)
    (hl : findIn (KF w.params) (.ref 52) name = some none) (hr : x.refKey = false) (he' : x.key.isStr name = false)
    (h : ∀ h' tk tk', Fr h₀ L h' m → News h₀ L h' ((e, excD t dx) :: (dx, dictOf [x, ⟨PyData.keyHash w.params name, .str name tk, v⟩] (n + 1)) :: rest) → Q () { s with heap := h', toks := tk' }) :
    wpAny (model Pr w) A (setAttr (.ref e) name v) Q E s := set_next F X₀ N hed hne hl (by rw [List.any_cons, hr]; rfl) (by rw [List.all_cons, he']; rfl) (by simp) h
theorem set_third {t : Addr} {name : Str} {x y : DictEntry} {n : Nat} {Q : Unit → Shared → Prop} (F : Fr h₀ L s.heap m) (X₀ : (KF w.params).In h₀) (N : News h₀ L s.heap ((e, excD t dx) :: (dx, dictOf [x, y] n) :: rest)) (hed : e ≠ dx) (hne : ∀ p ∈ rest, p.1 ≠ dx)
    (hl : findIn (KF w.params) (.ref 52) name = some none) (hr : (x.refKey || y.refKey) = false) (he' : (x.key.isStr name || y.key.isStr name) = false)
    (h : ∀ h' tk tk', Fr h₀ L h' m → News h₀ L h' ((e, excD t dx) :: (dx, dictOf [x, y, ⟨PyData.keyHash w.params name, .str name tk, v⟩] (n + 1)) :: rest) → Q () { s with heap := h', toks := tk' }) :
    wpAny (model Pr w) A (setAttr (.ref e) name v) Q E s := by
  obtain ⟨r1, r2⟩ := Bool.or_eq_false_iff.mp hr
  obtain ⟨k1, k2⟩ := Bool.or_eq_false_iff.mp he'
  exact set_next F X₀ N hed hne hl (by rw [List.any_cons, List.any_cons, r1, r2]; rfl) (by rw [List.all_cons, List.all_cons, k1, k2]; rfl) (by simp) h
end
/-- a tree that turns no object's class and no object's dict -/
def KD {α : Type} : Sem α → Prop
  | .pure _ => True
  | .raise _ => True
  | .unsupported _ => True
  | .finish _ => True
  | .rule _ k => KD (k ())
  | .at _ k => KD (k ())
  | .load _ _ k => ∀ o, KD (k o)
  | .update _ _ f k => (∀ o, (f o).cls = o.cls ∧ (f o).dict = o.dict ∧ (f o).isFreed = o.isFreed) ∧ KD (k ())
  | .alloc _ k => ∀ a, KD (k a)
  | .loadIfAlive _ k => ∀ o, KD (k o)
  | .point _ k => KD (k ())
  | .register _ _ => True
  | .fresh k => ∀ t, KD (k t)
  | .ask k => ∀ g, KD (k g)
  | .choose _ _ k => ∀ n, KD (k n)
  | .os _ _ k => ∀ r, KD (k r)
  | .call .. => False
  | .handled _ k => ∀ v, KD (k v)
  | .newGen _ k => ∀ n, KD (k n)
  | .genState _ k => ∀ n, KD (k n)
  | .resume .. => False
  | .yield .. => True
  | .stack k => ∀ l, KD (k l)
  | .fork .. => True
  | .thread k => ∀ n, KD (k n)
  | .await .. => True
def DS (h h' : Heap) : Prop := ∀ b o, h.get? b = some o → ∃ o', h'.get? b = some o' ∧ o'.cls = o.cls ∧ o'.dict = o.dict
theorem DS.refl (h : Heap) : DS h h := fun _ o e => ⟨o, e, rfl, rfl⟩
theorem DS.trans {h1 h2 h3 : Heap} (x : DS h1 h2) (y : DS h2 h3) : DS h1 h3 := fun b o e =>
  let ⟨o1, e1, c1, d1⟩ := x b o e; let ⟨o2, e2, c2, d2⟩ := y b o1 e1; ⟨o2, e2, c2.trans c1, d2.trans d1⟩
theorem DS.push (h : Heap) (o : Obj) : DS h (h.push o) := fun _ o' e => ⟨o', Heap.get?_push_of_some _ e, rfl, rfl⟩
theorem DS.update (h : Heap) (a : Addr) (f : Obj → Obj) (hf : ∀ o, (f o).cls = o.cls ∧ (f o).dict = o.dict ∧ (f o).isFreed = o.isFreed) : DS h (h.update a f) := fun b o e => by
  by_cases q : a = b
  · subst q
    exact ⟨f o, Heap.get?_update_self f e ((hf o).2.2.trans (Heap.get?_some_iff.mp e).2), (hf o).1, (hf o).2.1⟩
  · exact ⟨o, (Heap.get?_update_other _ _ q).trans e, rfl, rfl⟩
theorem wp_KD {α : Type} (M : Model) (Γ : PySem.Ctx) : ∀ (t : Sem α) (Q : α → Pos → Shared → Prop) (E : Value → Pos → Shared → Prop) (p : Pos) (s : Shared), KD t → Sem.wp M Γ t Q E p s →
    Sem.wp M Γ t (fun a p' s' => Q a p' s' ∧ DS s.heap s'.heap) (fun e p' s' => E e p' s' ∧ DS s.heap s'.heap) p s
  | .pure _, _, _, _, _, _, h => by rw [Sem.wp] at h ⊢; exact ⟨h, .refl _⟩
  | .raise _, _, _, _, _, _, h => by rw [Sem.wp] at h ⊢; exact ⟨h, .refl _⟩
  | .unsupported _, _, _, _, _, _, h => by rw [Sem.wp] at h; exact h.elim
  | .finish _, _, _, _, _, _, h => by rw [Sem.wp] at h; exact h.elim
  | .rule _ k, Q, E, p, s, z, h => by rw [Sem.wp] at h ⊢; exact wp_KD M Γ (k ()) Q E p s z h
  | .at q k, Q, E, p, s, z, h => by rw [Sem.wp] at h ⊢; exact wp_KD M Γ (k ()) Q E q s z h
  | .load a _ k, Q, E, p, s, z, h => by rw [Sem.wp] at h ⊢; obtain ⟨o, ho, h⟩ := h; exact ⟨o, ho, wp_KD M Γ (k o) Q E p s (z o) h⟩
  | .update a _ f k, Q, E, p, s, z, h => by
    rw [Sem.wp] at h ⊢
    refine ⟨h.1, Sem.wp_mono M Γ _ (fun _ _ _ x => ⟨x.1, (DS.update s.heap a f z.1).trans x.2⟩) (fun _ _ _ x => ⟨x.1, (DS.update s.heap a f z.1).trans x.2⟩) p _ (wp_KD M Γ (k ()) Q E p _ z.2 h.2)⟩
  | .alloc o k, Q, E, p, s, z, h => by
    rw [Sem.wp] at h ⊢
    exact Sem.wp_mono M Γ _ (fun a p' s' x => ⟨x.1, (DS.push s.heap o).trans x.2⟩) (fun a p' s' x => ⟨x.1, (DS.push s.heap o).trans x.2⟩) p _ (wp_KD M Γ (k _) Q E p _ (z _) h)
  | .loadIfAlive a k, Q, E, p, s, z, h => by rw [Sem.wp] at h ⊢; exact wp_KD M Γ (k _) Q E p s (z _) h
  | .point _ k, Q, E, p, s, z, h => by rw [Sem.wp] at h ⊢; exact wp_KD M Γ (k ()) Q E p s z h
  | .register _ _, _, _, _, _, _, h => by rw [Sem.wp] at h; exact h.elim
  | .fresh k, Q, E, p, s, z, h => by rw [Sem.wp] at h ⊢; exact wp_KD M Γ (k _) Q E p _ (z _) h
  | .ask k, Q, E, p, s, z, h => by rw [Sem.wp] at h ⊢; exact wp_KD M Γ (k _) Q E p s (z _) h
  | .choose _ n k, Q, E, p, s, z, h => by rw [Sem.wp] at h ⊢; exact ⟨h.1, wp_KD M Γ (k _) Q E p _ (z _) h.2⟩
  | .os _ _ k, Q, E, p, s, z, h => by rw [Sem.wp] at h ⊢; exact wp_KD M Γ (k _) Q E p _ (z _) h
  | .call .., _, _, _, _, z, _ => z.elim
  | .handled _ k, Q, E, p, s, z, h => by rw [Sem.wp] at h ⊢; exact wp_KD M Γ (k _) Q E p s (z _) h
  | .newGen _ k, Q, E, p, s, z, h => by rw [Sem.wp] at h ⊢; exact wp_KD M Γ (k _) Q E p _ (z _) h
  | .genState _ k, Q, E, p, s, z, h => by rw [Sem.wp] at h ⊢; obtain ⟨o, ho, h⟩ := h; exact ⟨o, ho, wp_KD M Γ (k _) Q E p s (z _) h⟩
  | .resume .., _, _, _, _, z, _ => z.elim
  | .yield .., _, _, _, _, _, h => by rw [Sem.wp] at h; exact h.elim
  | .stack k, Q, E, p, s, z, h => by rw [Sem.wp] at h ⊢; exact wp_KD M Γ (k _) Q E p s (z _) h
  | .fork .., _, _, _, _, _, h => by rw [Sem.wp] at h; exact h.elim
  | .thread k, Q, E, p, s, z, h => by rw [Sem.wp] at h ⊢; exact wp_KD M Γ (k _) Q E p s (z _) h
  | .await .., _, _, _, _, _, h => by rw [Sem.wp] at h; exact h.elim
theorem wpAny_KD {α : Type} {M : Model} {A : Around} {t : Sem α} {Q : α → Shared → Prop} {E : Value → Shared → Prop} {s : Shared} (h : wpAny M A t Q E s) (z : KD t) :
    wpAny M A t (fun a s' => Q a s' ∧ DS s.heap s'.heap) (fun e s' => E e s' ∧ DS s.heap s'.heap) s := fun Γ p hΓ => wp_KD M Γ t _ _ p s z (h Γ p hΓ)
theorem KD_bind {α β : Type} : ∀ {m : Sem α} {f : α → Sem β}, KD m → (∀ a, KD (f a)) → KD (m.bind f)
  | .pure a, f, _, h => h a
  | .raise _, _, _, _ => trivial
  | .unsupported _, _, _, _ => trivial
  | .finish _, _, _, _ => trivial
  | .rule _ k, f, z, h => KD_bind (m := k ()) z h
  | .at _ k, f, z, h => KD_bind (m := k ()) z h
  | .load _ _ k, f, z, h => fun o => KD_bind (m := k o) (z o) h
  | .update _ _ _ k, f, z, h => ⟨z.1, KD_bind (m := k ()) z.2 h⟩
  | .alloc _ k, f, z, h => fun o => KD_bind (m := k o) (z o) h
  | .loadIfAlive _ k, f, z, h => fun o => KD_bind (m := k o) (z o) h
  | .point _ k, f, z, h => KD_bind (m := k ()) z h
  | .register _ _, _, _, _ => trivial
  | .fresh k, f, z, h => fun o => KD_bind (m := k o) (z o) h
  | .ask k, f, z, h => fun o => KD_bind (m := k o) (z o) h
  | .choose _ _ k, f, z, h => fun o => KD_bind (m := k o) (z o) h
  | .os _ _ k, f, z, h => fun o => KD_bind (m := k o) (z o) h
  | .call .., _, z, _ => z.elim
  | .handled _ k, f, z, h => fun o => KD_bind (m := k o) (z o) h
  | .newGen _ k, f, z, h => fun o => KD_bind (m := k o) (z o) h
  | .genState _ k, f, z, h => fun o => KD_bind (m := k o) (z o) h
  | .resume .., _, z, _ => z.elim
  | .yield .., _, _, _ => trivial
  | .stack k, f, z, h => fun o => KD_bind (m := k o) (z o) h
  | .fork .., _, _, _ => trivial
  | .thread k, f, z, h => fun o => KD_bind (m := k o) (z o) h
  | .await .., _, _, _ => trivial
theorem KD_bind' {α β : Type} {m : Sem α} {f : α → Sem β} (x : KD m) (y : ∀ a, KD (f a)) : KD (m >>= f) := KD_bind x y
theorem freed_map (f : Array Value → Array Value) (o : Obj) : (Obj.mapFields f o).cls = o.cls ∧ (Obj.mapFields f o).dict = o.dict ∧ (Obj.mapFields f o).isFreed = o.isFreed := by
  obtain ⟨c, d, dt, sl⟩ := o
  cases dt <;> exact ⟨rfl, rfl, rfl⟩
theorem KD_fieldsOf (v : Value) : KD (fieldsOf v) := by
  unfold fieldsOf
  cases v <;> try exact trivial
  refine KD_bind' (fun o => trivial) fun o => ?_
  split <;> trivial
theorem KD_field (v : Value) (i : Nat) : KD (field v i) := by
  unfold field
  refine KD_bind' (KD_fieldsOf v) fun o => ?_
  split <;> trivial
theorem KD_setField (v : Value) (i : Nat) (x : Value) : KD (setField v i x) := by
  unfold setField
  cases v <;> try exact trivial
  unfold updateField
  refine KD_bind' (fun o => trivial) fun o => ?_
  split
  · split
    · exact ⟨freed_map _, trivial⟩
    · trivial
  · trivial
theorem KD_ite {α : Type} {c : Prop} [Decidable c] {x y : Sem α} (hx : KD x) (hy : KD y) : KD (if c then x else y) := by split <;> assumption
theorem KD_pure {α : Type} (a : α) : KD (pure a : Sem α) := trivial
theorem KD_setFlight (e : Value) (f : Option Addr) : KD (setFlight e f) := by
  unfold setFlight
  exact KD_bind' (KD_field e 1) fun o => KD_ite (KD_setField _ _ _) trivial
theorem KD_readyFrames : ∀ l : List Env, KD (readyFrames l)
  | [] => trivial
  | env :: outer => by
    unfold readyFrames
    split
    · refine KD_bind' (fun o => trivial) fun o => ?_
      refine KD_ite trivial ?_
      refine KD_bind' ?_ fun i => KD_bind' ?_ fun b => ?_
      · unfold behindIsImport
        refine KD_ite trivial (KD_ite trivial (KD_bind' (KD_field _ _) fun _ => trivial))
      · unfold keptBack
        split
        · refine KD_ite trivial (KD_bind' ?_ fun _ => trivial)
          unfold underTheClaimsCaller
          exact KD_bind' (fun _ => trivial) fun _ => trivial
        · trivial
      · refine KD_bind' ⟨fun o => ⟨rfl, rfl, ?_⟩, trivial⟩ fun _ => KD_readyFrames outer
        obtain ⟨c, d, dt, sl⟩ := o
        cases dt <;> rfl
    · trivial
theorem KD_frameOf (env : Env) : KD (PySem.frameOf env) := by
  unfold PySem.frameOf
  refine KD_bind' ?_ fun l => KD_bind' ?_ fun r => ?_
  · unfold frameEnvs
    exact KD_bind' (fun _ => trivial) fun _ => trivial
  · unfold frameObject
    split
    · trivial
    · exact KD_bind' (KD_readyFrames _) fun _ => trivial
  · split <;> trivial
theorem KD_newEntry (a b c d e : Value) (l : List Value) : KD (EntryCells.newEntry a b c d e l) := by
  unfold EntryCells.newEntry newFields newObj
  refine KD_ite trivial ?_
  unfold newObjAsIs
  exact KD_bind' (fun _ => trivial) fun _ => trivial
theorem KD_entryPlaceOf (f : Addr) (b : Bool) : KD (entryPlaceOf f b) := by
  unfold entryPlaceOf
  refine KD_bind' (fun _ => trivial) fun l => ?_
  split <;> trivial
theorem KD_noteFrame (e : Value) (env : Env) : KD (noteFrame e env) := by
  unfold noteFrame
  split
  · rename_i f _
    refine KD_bind' (KD_field e 1) fun o => ?_
    have rest : ∀ u : Unit, KD (do setField e 1 (← EntryCells.newEntry o (← PySem.frameOf env) .none (rawInt f) .none (← entryPlaceOf f (o != .none)))) := fun _ => KD_bind' (KD_frameOf _) fun _ => KD_bind' (KD_entryPlaceOf _ _) fun _ => KD_bind' (KD_newEntry _ _ _ _ _ _) fun _ => KD_setField _ _ _
    exact KD_ite (KD_bind' (KD_field _ _) fun _ => KD_ite trivial (KD_bind' (KD_setField _ _ _) fun _ => rest ())) (rest ())
  · trivial
theorem KD_leaving (e : Value) (env : Env) : KD (leaving env e) := by
  unfold leaving
  exact KD_bind' (KD_noteFrame _ _) fun _ => KD_setFlight _ _
/-- the own exception flies through the frames l: its object, its dict, and what stands still meanwhile -/
structure Fly (base G : Heap) (l : List Env) (e dx : Addr) (news : List (Addr × Obj)) (h : Heap) : Prop where
  ex : ∃ B a0, base.StaysIn B ∧ (∀ b o, G.get? b = some o → b ∉ l.filterMap (·.frame) → B.get? b = some o) ∧ (∀ q ∈ news, B.get? q.1 = some q.2 ∧ G.get? q.1 = none ∧ base.get? q.1 = none) ∧ Heap.FlyingW B l e (.ref 52) a0 h
  dict : ∃ oe, h.get? e = some oe ∧ oe.dict = some dx
section
variable {M : Model} {A : Around} {E : Value → Shared → Prop} {s' : Shared} {base g g₂ : Heap} {outer : List Env} {L e t dx : Addr} {m : Str → Option Value} {env : Env} {Q : Unit → Shared → Prop} {news rest : List (Addr × Obj)}
theorem mem_frames {env : Env} {b : Addr} (hf : env.frame = some L) (hm : b ∈ (env :: outer).filterMap (·.frame)) : b = L ∨ b ∈ outer.filterMap (·.frame) := by
  obtain ⟨v, hv, hb⟩ := List.mem_filterMap.mp hm
  rcases List.mem_cons.mp hv with rfl | hv
  · exact .inl (Option.some.inj (hb.symm.trans hf))
  · exact .inr (List.mem_filterMap.mpr ⟨v, hv, hb⟩)
theorem leave_first (K : Below A base outer g) (F : Fr g L s'.heap m) (N : News g L s'.heap ((e, excD t dx) :: rest)) (hne : ∀ p ∈ rest, p.1 ≠ e)
    (hQ : ∀ h', Fly base g outer e dx rest h' → g.UpToSlots h' → Q () { s' with heap := h' }) (hf : env.frame = some L := by rfl) (hk : env.scope.kind = .function := by rfl) :
    wpAny M (A.deeper env) (leaving env (.ref e)) Q E s' := by
  have K' := pushX (env := env) K F hf hk
  have he := N _ (.head _)
  have heb : base.get? e = none := fresh_of_stays K.stays he.2.2
  have hin : ∀ v ∈ (env :: outer), ∀ b, v.frame = some b → b ∈ e :: (env :: outer).filterMap (·.frame) := fun v he b hb => .tail _ (List.mem_filterMap.mpr ⟨v, he, hb⟩)
  have hst : base.StaysIn (hideAll s'.heap (e :: (env :: outer).filterMap (·.frame))) := fun b o q => hideAll_get _ (K'.stays b o q) fun hm => by
    rcases List.mem_cons.mp hm with rfl | hm
    · rw [heb] at q; cases q
    · rw [(K'.frames.mem hm).1] at q; cases q
  have hsg : ∀ b o, g.get? b = some o → b ∉ outer.filterMap (·.frame) → (hideAll s'.heap (e :: (env :: outer).filterMap (·.frame))).get? b = some o := fun b o q nm => hideAll_get _ (F.keep b o q) fun hm => by
    rcases List.mem_cons.mp hm with rfl | hm
    · rw [he.2.2] at q; cases q
    · rcases mem_frames hf hm with z | z
      · rw [z, kts_self F] at q; cases q
      · exact nm z
  have hl : ∀ q ∈ rest, (hideAll s'.heap (e :: (env :: outer).filterMap (·.frame))).get? q.1 = some q.2 ∧ g.get? q.1 = none ∧ base.get? q.1 = none := fun q hq => by
    have hN := N q (.tail _ hq)
    refine ⟨hideAll_get _ hN.1 fun hm => ?_, hN.2.2, fresh_of_stays K.stays hN.2.2⟩
    rcases List.mem_cons.mp hm with z | hm
    · exact hne q hq z
    · rcases mem_frames hf hm with z | z
      · exact hN.2.1 z
      · obtain ⟨o, ho, _⟩ := (K.frames.mem z).2
        rw [hN.2.2] at ho; cases ho
  refine wpAny_mono (wpAny_KD (wpAny_leaving_firstW (Q := fun _ s'' => ∃ h', s'' = { s' with heap := h' } ∧ Heap.LeftW (hideAll s'.heap (e :: (env :: outer).filterMap (·.frame))) (env :: outer) e (.ref 52) (.ref t) s'.heap h') K'.stack (funFrames_hide K'.frames hin) hf he.1 (fun b o q => of_hideAll _ q) (hideAll_none _ (.head _)) rfl rfl rfl fun h' hL => ⟨h', rfl, hL⟩) (KD_leaving _ _)) (fun _ s'' z => ?_) fun _ _ z => z.1
  obtain ⟨⟨h', rfl, hL⟩, hd⟩ := z
  obtain ⟨k1, ⟨_, _, k2⟩, k3, k4⟩ := hL
  obtain ⟨oe, ho, _, hdd⟩ := hd e _ he.1
  exact hQ h' ⟨⟨_, _, hst, hsg, hl, k1, hideAll_none _ (.head _), k2, k3⟩, oe, ho, hdd⟩ ((Heap.UpToSlots.of_keeps F.keep).trans k4)
theorem leave_on (K : Below A base outer g) (F : Fr g L g₂ m) (R : Fly base g₂ (env :: outer) e dx news s'.heap) (hsm : g₂.UpToSlots s'.heap)
    (hQ : ∀ h', Fly base g outer e dx news h' → g.UpToSlots h' → Q () { s' with heap := h' }) (hf : env.frame = some L := by rfl) :
    wpAny M (A.deeper env) (leaving env (.ref e)) Q E s' := by
  obtain ⟨⟨B, a0, hB, hBG, hl, hfl⟩, oe, ho, hdd⟩ := R
  refine wpAny_mono (wpAny_KD (wpAny_leaves_onW (Q := fun _ s'' => ∃ h', s'' = { s' with heap := h' } ∧ Heap.FlyingW B outer e (.ref 52) a0 h' ∧ s'.heap.UpToSlots h') (Around.frames_deeper K.stack) hf hfl fun h' x1 x2 => ⟨h', rfl, x1, x2⟩) (KD_leaving _ _)) (fun _ s'' z => ?_) fun _ _ z => z.1
  obtain ⟨⟨h', rfl, x1, x2⟩, hd⟩ := z
  obtain ⟨oe', ho', _, hdd'⟩ := hd e _ ho
  exact hQ h' ⟨⟨B, a0, hB, fun b o q nm => hBG b o (F.keep b o q) (fun hm => by
    rcases mem_frames hf hm with z | z
    · rw [z, kts_self F] at q; cases q
    · exact nm z), fun q hq => ⟨(hl q hq).1, kts_none F.keep (hl q hq).2.1, (hl q hq).2.2⟩, x1⟩, oe', ho', hdd'.trans hdd⟩ ((Heap.UpToSlots.of_keeps F.keep).trans (hsm.trans x2))
end
-- a def that may turn the frames' slots (it catches): its ground, whatever its caller's environment
section
variable {prog : Program} {w : World} {A₀ A : Around} {s : Shared} {base h₀ g₀ : Heap} {outer : List Env} {L : Addr} {m : Str → Option Value} {env : Env} {news : List (Addr × Obj)} {K : Frag} {p : Program} {loose : List Str} {mean : ExcName → Option Value} {mg mb : Str → Option Value}
    {R : Result → Shared → Prop} {name qual : Str} {params : Arguments} {body : List Stmt} {scope : Scope} {dV kV doc pm cdv ct oc : Value} {an od : Option Addr} {osl : Array (Option Value)} {f : Addr} {args : Args} {binds : List (Str × Value)}
theorem groundS (B : Below A₀ base outer h₀) (F : Fr h₀ L s.heap m) (N : News h₀ L s.heap news) (XB : K.In base) (TB : Top p loose mean mg mb base) (D : KtsDicts (outer.filterMap (·.frame)) h₀)
    (T0 : KtsTurn (outer.filterMap (·.frame)) g₀ h₀) (hA : A.frames = some (env :: outer)) (hf : env.frame = some L) (hke : env.scope.kind = .function) :
    Fr h₀ L (hideAll s.heap (news.map (·.1))) m ∧ Below A base (env :: outer) (hideAll s.heap (news.map (·.1))) ∧ h₀.StaysIn (hideAll s.heap (news.map (·.1))) ∧ KtsDicts ((env :: outer).filterMap (·.frame)) (hideAll s.heap (news.map (·.1))) ∧
      ∀ v s', LeaveS ((env :: outer).filterMap (·.frame)) A₀ base outer K p loose mean mg mb g₀ h₀ L m (hideAll s.heap (news.map (·.1))) R v s' → R (.ok (.ret v)) s' := by
  obtain ⟨FG, BG, st, lv⟩ := groundX (R := R) B F N hA hf hke
  obtain ⟨oL, es, ep, hLg, hLd, hLk, hLf⟩ := FG.ns
  refine ⟨⟨⟨oL, es, ep, hLg, hLd, hLk, hLf⟩, st, F.above⟩, BG, st, fun b hb => ?_, fun v s' hl => ?_⟩
  · rcases mem_frames hf hb with rfl | hb
    · exact ⟨oL, es, ep, hLg, hLd⟩
    · obtain ⟨o, es', n', ho', hd'⟩ := D b hb
      exact ⟨o, es', n', st b o ho', hd'⟩
  have nL₀ : h₀.get? L = none := kts_self F
  rcases hl with hl | ⟨g', L', m', news', T', F', N', k⟩
  · exact lv v s' hl
  obtain ⟨sl, hs⟩ := T'.up hLg
  obtain ⟨T₁, S₁⟩ := kts_turn_at (h := s'.heap) (fs := outer.filterMap (·.frame)) (g := h₀)
    (fun b hb => by
      obtain ⟨_, o, ho', _⟩ := B.frames.mem hb
      exact ⟨o, ho'⟩)
    (fun b o e nmem => F'.keep b o (T'.other b o (st b o e) (fun q => by
      rcases mem_frames hf q with z | z
      · rw [z, nL₀] at e
        cases e
      · exact nmem z)))
    (fun b o e hm => by
      obtain ⟨sl', hs'⟩ := T'.up (st b o e)
      exact ⟨sl', F'.keep _ _ hs'⟩)
  have B₃ : Below A₀ base outer (ktsHeap s'.heap (outer.filterMap (·.frame)) h₀) := ⟨B.stack, fun b o e => T₁.other b o (B.stays b o e) (fun hm => by
    rw [(B.frames.mem hm).1] at e
    cases e), B.frames.of_keeps fun b o e _ => by
    obtain ⟨sl', hs'⟩ := T₁.up e
    exact ⟨_, hs', rfl⟩⟩
  refine k _ (T0.trans T₁) ⟨⟨_, es, ep, F'.keep _ _ hs, hLd, hLk, hLf⟩, S₁, by rw [T₁.size]; exact F.above⟩ (fun p hp => ⟨(N' p hp).1, fun q => ?_, ?_⟩) B₃ (XB.keeps B₃.stays) (TB.keeps B₃.stays) (D.turn T₁)
  · have := (N' p hp).2.2; rw [q, hs] at this; cases this
  · refine T₁.none_ _ ?_
    cases q : h₀.get? p.1 with
    | none => rfl
    | some o =>
      obtain ⟨sl', hs'⟩ := T'.up (st _ _ q)
      have := (N' p hp).2.2
      rw [hs'] at this
      cases this
theorem enterS (B : Below A₀ base outer h₀) (F : Fr h₀ L s.heap m) (X₀ : K.In h₀) (N : News h₀ L s.heap news) (T : Top p loose mean mg mb h₀) (XB : K.In base) (TB : Top p loose mean mg mb base) (D : KtsDicts (outer.filterMap (·.frame)) h₀)
    (T0 : KtsTurn (outer.filterMap (·.frame)) g₀ h₀) (hA : A.frames = some (env :: outer)) (hf : env.frame = some L) (hke : env.scope.kind = .function)
    (ho : K.lookup f = some ⟨oc, od, .func (fnOf name qual params body scope dV kV doc pm an cdv ct), osl⟩) (hcd : codeIn K cdv qual = true) (hroom : A.depth < recursionLimit)
    (hbind : BindsTo s (fnOf name qual params body scope dV kV doc pm an cdv ct) args binds) (hloc : ∀ y ∈ binds, scope.names.lookup y.1 = some .local)
    (h : ∀ g L' h₁, Fr h₀ L g m → Fr g L' h₁ (fun y => binds.reverse.lookup y) → News g L' h₁ news → Below A base (env :: outer) g → K.In g → Top p loose mean mg mb g → KtsDicts ((env :: outer).filterMap (·.frame)) g →
      wpAny (model prog w) (A.deeper (envOf qual scope L' f cdv)) (execs body (envOf qual scope L' f cdv))
        (fun fl s' => LeaveS ((env :: outer).filterMap (·.frame)) A₀ base outer K p loose mean mg mb g₀ h₀ L m g R (match fl with | .ret v => v | _ => .none) s')
        (fun e s' => wpAny (model prog w) (A.deeper (envOf qual scope L' f cdv)) (leaving (envOf qual scope L' f cdv) e) (fun _ s'' => R (.error e) s'') (fun e' s'' => R (.error e') s'') s')
        { s with heap := h₁, toks := s.toks + binds.length })
    (hco : scope.isCoroutine = false) (hgen : scope.isGenerator = false) (hk : scope.kind = .function)
    (hcell : ∀ x ∈ scope.names, x.2 ≠ .cell) : codeAny (model prog w) A (.call (.ref f) args) R s := by
  have X := X₀.keeps F.keep
  obtain ⟨FG, BG, st, DG, lv⟩ := groundS (R := R) B F N XB TB D T0 hA hf hke
  refine codeAny_call_def (fd := fnOf name qual params body scope dV kV doc pm an cdv ct) (body := body) (binds := binds) hroom (X _ _ ho) rfl (T.nolimit.keeps F.keep) (codeRec_of X hcd) rfl hbind hcell hloc (fun h₁ hns hk₁ => ?_) hco hgen hk
  exact wpAny_mono (h _ s.heap.objs.size h₁ FG ⟨hns, fun b o e => hk₁ b o (of_hideAll _ e), Nat.le_of_eq (hideAll_size _ _)⟩
    (fun p hp => ⟨hk₁ _ _ (N p hp).1, Nat.ne_of_lt (Heap.lt_size (N p hp).1), hideAll_none _ (List.mem_map_of_mem hp)⟩) BG (X₀.keeps st) (T.keeps st) DG) (fun fl s' hl => lv _ _ hl) fun _ _ y => y
theorem enterCS (B : Below A₀ base outer h₀) (F : Fr h₀ L s.heap m) (X₀ : K.In h₀) (N : News h₀ L s.heap news) (T : Top p loose mean mg mb h₀) (XB : K.In base) (TB : Top p loose mean mg mb base) (D : KtsDicts (outer.filterMap (·.frame)) h₀)
    (T0 : KtsTurn (outer.filterMap (·.frame)) g₀ h₀) (hA : A.frames = some (env :: outer)) (hf : env.frame = some L) (hke : env.scope.kind = .function)
    (ho : K.lookup f = some ⟨oc, od, .func (fnOf name qual params body scope dV kV doc pm an cdv ct), osl⟩) (hcd : codeIn K cdv qual = true) (hroom : A.depth < recursionLimit)
    (hbind : BindsTo s (fnOf name qual params body scope dV kV doc pm an cdv ct) args binds) (hkind : (binds.all fun y => scope.names.lookup y.1 == some .local || scope.names.lookup y.1 == some .cell) = true)
    (hnd : ((cellsFrom 0 scope.names []).map (·.1)).Nodup)
    (h : ∀ g L' h₁ tk cells, Fr h₀ L g m → Fr g L' h₁ (bindL (envOfC qual scope L' f cdv).kindOf binds fun _ => none) → News g L' h₁ (cells ++ news) →
      CellsAre (bindC (envOfC qual scope L' f cdv).kindOf binds fun _ => none) (cellsFrom (L' + 1) scope.names []) cells → Below A base (env :: outer) g → K.In g → Top p loose mean mg mb g → KtsDicts ((env :: outer).filterMap (·.frame)) g → (∀ p ∈ news, p.1 < L') →
      wpAny (model prog w) (A.deeper (envOfC qual scope L' f cdv)) (execs body (envOfC qual scope L' f cdv))
        (fun fl s' => LeaveS ((env :: outer).filterMap (·.frame)) A₀ base outer K p loose mean mg mb g₀ h₀ L m g R (match fl with | .ret v => v | _ => .none) s')
        (fun e s' => wpAny (model prog w) (A.deeper (envOfC qual scope L' f cdv)) (leaving (envOfC qual scope L' f cdv) e) (fun _ s'' => R (.error e) s'') (fun e' s'' => R (.error e') s'') s')
        { s with heap := h₁, toks := tk })
    (hco : scope.isCoroutine = false) (hgen : scope.isGenerator = false) (hk : scope.kind = .function) : codeAny (model prog w) A (.call (.ref f) args) R s := by
  have X := X₀.keeps F.keep
  obtain ⟨FG, BG, st, DG, lv⟩ := groundS (R := R) B F N XB TB D T0 hA hf hke
  refine codeAny_call_function hroom (X _ _ ho) rfl hco hgen rfl (codeRec_of X hcd) (hbind _ _ _ _ ?_)
  refine wpAny_newFunctionEnv_cells hk (kindsX hkind _) fun env' he s' x => ?_
  subst he
  refine ⟨(T.nolimit.keeps F.keep).keeps x.toInCall.keep, codeAny_func ?_⟩
  obtain ⟨h₁, tk, rfl, _⟩ := x.done
  have hk₁ := x.toInCall.keep
  obtain ⟨cells, NC, Y⟩ := Cl.news (h₀ := s.heap) (Nat.le_refl _) fun n c hm => ⟨x.cell n c (lookup_of_mem_nodup (cellsFrom_names scope.names 0 (s.heap.objs.size + 1) [] [] rfl ▸ hnd) hm), x.above n c hm⟩
  refine wpAny_mono (h _ s.heap.objs.size h₁ tk cells FG ⟨x.toInCall.ns, fun b o e => hk₁ b o (of_hideAll _ e), Nat.le_of_eq (hideAll_size _ _)⟩ (fun p hp => ?_) Y BG (X₀.keeps st) (T.keeps st) DG (fun p hp => Heap.lt_size (N p hp).1)) (fun fl s' hl => lv _ _ hl) fun _ _ y => y
  rcases List.mem_append.mp hp with hp | hp
  · refine ⟨(NC p hp).1, (NC p hp).2.1, ?_⟩
    cases q : (hideAll s.heap (news.map (·.1))).get? p.1 with
    | none => rfl
    | some o => have := of_hideAll _ q; rw [(NC p hp).2.2] at this; cases this
  · exact ⟨hk₁ _ _ (N p hp).1, Nat.ne_of_lt (Heap.lt_size (N p hp).1), hideAll_none _ (List.mem_map_of_mem hp)⟩
end
def raiseGo (xv : Value) : Sem Flow := do
  let e ← holding [] (excFromValue xv "exceptions must derive from BaseException")
  let e ← if ← isType xv then holding [e] (raisedFor xv e) else raisedInstance e
  setFlight e none
  raiseNew e
theorem raise_go {w : World} {A : Around} {E : Value → Shared → Prop} {s : Shared} {e t dx : Addr} {Q : Flow → Shared → Prop} (X : (KF w.params).In s.heap) (he : s.heap.get? e = some (excD t dx)) (hh : A.handled = none) (hE : E (.ref e) s) :
    wpAny (model Pr w) A (raiseGo (.ref e)) Q E s := by
  obtain ⟨hp, g, d, tk, os⟩ := s
  have hC := c52 X
  have hcB : (Value.ref 52 :: bmT).contains (.type "BaseException") = true := by decide +kernel
  unfold raiseGo
  repeat (first | with_reducible refine wpAny_loadPart_at he ?_ | with_reducible refine wpAny_loadPart_at hC ?_ | (with_reducible refine wpAny_isSubtype_exc hC ?_; rw [hcB]) | wp_step)
  exact wpAny_raiseNew_none hh hE
theorem raise_stmt {M : Model} {A : Around} {E : Value → Shared → Prop} {s : Shared} {env : Env} {x : Expr} {pos : Pos} {Q : Flow → Shared → Prop}
    (h : wpAny M A (eval x env) (fun v s₁ => wpAny M A (raiseGo v) Q E s₁) E s) : wpAny M A (exec (.Raise (some x) none pos) env) Q E s := by
  rw [arm_exec_Raise]
  refine wpAny_bind (wpAny_standAt ?_)
  show wpAny M A ((do let v ← eval x env; standAt pos; pure v) >>= raiseGo) Q E s
  exact wpAny_bind (wpAny_bind (wpAny_mono h (fun v s₁ h₁ => wpAny_bind (wpAny_standAt (wpAny_pure h₁))) fun _ _ x => x))
section
variable {w : World} {A₀ : Around} {E : Value → Shared → Prop} {s' : Shared} {base g g₀ G : Heap} {outer : List Env} {L a e dx : Addr} {m : Str → Option Value} {name : Str} {scope : Scope} {cd : Value}
  {n : Str} {b₀ : Stmt} {suite : List Stmt} {pos np : Pos} {rest : List ExceptHandler} {Q : Flow → Shared → Prop} {news : List (Addr × Obj)}
  {p : Program} {loose : List Str} {mean : ExcName → Option Value} {mg mb : Str → Option Value}
abbrev caughtO (dx : Addr) (vs : Array Value) (sl : Array (Option Value)) : Obj := ⟨.ref 52, some dx, .fields vs, sl⟩
theorem caught (R : Fly base G (envOf name scope L a cd :: outer) e dx news s'.heap) (F : Fr g L G m) (K : Below A₀ base outer g) (hsm : G.UpToSlots s'.heap) (XB : (KF w.params).In base) (TB : Top p loose mean mg mb base)
    (D : KtsDicts (outer.filterMap (·.frame)) g) (T0 : KtsTurn (outer.filterMap (·.frame)) g₀ g)
    (k : ∀ h' g' vs sl tk, KtsTurn (outer.filterMap (·.frame)) g₀ g' → Fr g' L h' (fun y => if y = n then some (.ref e) else m y) → News g' L h' ((e, caughtO dx vs sl) :: news) → Below A₀ base outer g' → (KF w.params).In g' → Top p loose mean mg mb g' → KtsDicts (outer.filterMap (·.frame)) g' →
      wpAny (model Pr w) ((A₀.deeper (envOf name scope L a cd)).mark (some (.ref e))) (execs (b₀ :: suite) (envOf name scope L a cd))
        (fun f s₄ => wpAny (model Pr w) (A₀.deeper (envOf name scope L a cd)) (do bindName (envOf name scope L a cd) n .none; unbindBehindTheSuite (envOf name scope L a cd) n pos) (fun _ s₅ => Q f s₅) E s₄)
        (AsSuiteRaised (model Pr w) ((A₀.deeper (envOf name scope L a cd)).mark (some (.ref e))) (envOf name scope L a cd) n pos (notedBy (model Pr w) ((A₀.deeper (envOf name scope L a cd)).mark (some (.ref e))) (envOf name scope L a cd) (cameBackBy (model Pr w) (A₀.deeper (envOf name scope L a cd)) (envOf name scope L a cd) E)))
        { s' with heap := h', toks := tk })
    (hk : scope.kind = .function := by rfl) (hlo : (envOf name scope L a cd).kindOf n = some .local := by rfl) (hx : (envOf name scope L a cd).kindOf "Thrown" = some .globalImplicit := by rfl) :
    wpAny (model Pr w) (A₀.deeper (envOf name scope L a cd)) (noteFrame (.ref e) (envOf name scope L a cd))
      (fun _ s₂ => wpAny (model Pr w) (A₀.deeper (envOf name scope L a cd)) (setFlight (.ref e) none) (fun _ s₃ =>
        wpAny (model Pr w) (A₀.deeper (envOf name scope L a cd)) (handleBy (.ref e) (envOf name scope L a cd) (.ExceptHandler (some (.Name "Thrown" np)) (some n) (b₀ :: suite) pos :: rest)) Q E s₃) E s₂) E s' := by
  obtain ⟨⟨B, a0, hB, hBG, hl, hfl⟩, oe₀, hoe₀, hdd₀⟩ := R
  have hL : B.get? L = none := by
    obtain ⟨_, ⟨L', _, hf, hn', _⟩, _⟩ := hfl.2.2.1
    obtain rfl : L = L' := Option.some.inj hf
    exact hn'
  refine wpAny_mono (wpAny_KD (wpAny_looks_onW (Q := fun _ s'' => ∃ h', s'' = { s' with heap := h' } ∧ Heap.HeldW B (envOf name scope L a cd :: outer) e (.ref 52) a0 L h' ∧ s'.heap.UpToSlots h') (Around.frames_deeper K.stack) rfl hfl fun h' x1 x2 => ⟨h', rfl, x1, x2⟩) (KD_noteFrame _ _)) (fun _ s'' z => ?_) fun _ _ z => z.1
  obtain ⟨⟨h₄, rfl, hheld₄, hsm₄⟩, ds₄⟩ := z
  refine wpAny_mono (wpAny_KD (wpAny_landsW (Q := fun _ s'' => ∃ h', s'' = { s' with heap := h' } ∧ Heap.FlyingW B (envOf name scope L a cd :: outer) e (.ref 52) a0 h' ∧ h₄.UpToSlots h') hheld₄ fun h' x1 x2 => ⟨h', rfl, x1, x2⟩) (KD_setFlight _ _)) (fun _ s'' z => ?_) fun _ _ z => z.1
  obtain ⟨⟨h₅, rfl, hheld, hsm₅'⟩, ds₅⟩ := z
  have hsm₅ := hsm₄.trans hsm₅'
  have dsA : DS s'.heap h₅ := DS.trans ds₄ ds₅
  obtain ⟨g₅, T₅, F₅, K₅⟩ := kts_ground K F hBG hheld.1 (hsm.trans hsm₅)
  have X₅ : (KF w.params).In g₅ := XB.keeps K₅.stays
  have P₅ : TopRead p loose mg mb g₅ := topRead_of (TB.keeps K₅.stays)
  obtain ⟨ob, hob, hobc⟩ := hheld.there
  have hC₅ := F₅.keep _ _ (c52 X₅)
  refine wpAny_handleBy_cons (codeAny_handlers_test (name_K F₅ X₅ P₅ (v := .ref 52) (by k_is) ?_ hk hx rfl)) (by intro q; cases q)
  refine wpAny_excMatches_sub_self hC₅ hob hobc (by decide +kernel) (codeAny_handlers_suite_as ?_)
  refine wpAny_mono (wpAny_KD (lands_againW (Q := fun _ s'' => ∃ h', s'' = { s' with heap := h' } ∧ Heap.FlyingW B (envOf name scope L a cd :: outer) e (.ref 52) a0 h' ∧ h₅.UpToSlots h') hheld fun h' x1 x2 => ⟨h', rfl, x1, x2⟩) (KD_setFlight _ _)) (fun _ s'' z => ?_) fun _ _ z => z.1
  obtain ⟨⟨h₆, rfl, hfl₆, hsm₆⟩, ds₆⟩ := z
  obtain ⟨oeD, hoeD, _, hddD⟩ := (DS.trans dsA ds₆) e _ hoe₀
  obtain ⟨g₆, T₆, F₆, K₆⟩ := kts_ground K F hBG hfl₆.1 ((hsm.trans hsm₅).trans hsm₆)
  obtain ⟨oe, ws, hoe, hoec, hoed, hoe0⟩ := hfl₆.first
  have ne₆ : g₆.get? e = none := T₆.none_ _ (kts_fresh F hBG hfl₆.2.1 fun o ho m => by
    obtain ⟨_, o', ho', hd⟩ := K.frames.mem m
    rw [ho] at ho'
    cases ho'
    obtain ⟨sl, hs⟩ := ((hsm.trans hsm₅).trans hsm₆) _ _ (F.keep _ _ ho) hd
    rw [hoe] at hs
    cases hs
    exact hd _ hoed)
  have hdx : oe.dict = some dx := by
    have : oe = oeD := Option.some.inj (hoe.symm.trans hoeD)
    rw [this]; exact hddD.trans hdd₀
  have hoe' : h₆.get? e = some (caughtO dx ws oe.slots) := by
    obtain ⟨c1, c2, c3, c4⟩ := oe
    dsimp only at hoec hoed hdx ⊢
    subst hoec hoed hdx
    exact hoe
  have N₆ := News.more F₆ News.nil hoe' (fun es n q => by cases q) ne₆
  have Nl : News g₆ L h₆ news := fun q hq => ⟨hfl₆.1 _ _ (hl q hq).1, (fun z => by have := (hl q hq).1; rw [z, hL] at this; cases this), T₆.none_ _ (kts_none F.keep (hl q hq).2.1)⟩
  have X₆ : (KF w.params).In g₆ := XB.keeps K₆.stays
  have P₆ : Top p loose mean mg mb g₆ := TB.keeps K₆.stays
  have D₆ : KtsDicts (outer.filterMap (·.frame)) g₆ := D.turn T₆
  refine stN F₆ (news := (e, caughtO dx ws oe.slots) :: news) (fun q hq => by
    rcases List.mem_cons.mp hq with rfl | hq
    · exact N₆ _ (.head _)
    · exact Nl q hq) (fun h₇ F₇ N₇ => ?_) hk hlo
  exact k h₇ g₆ _ _ _ (T0.trans T₆) F₇ N₇ K₆ X₆ P₆ D₆
end
theorem get_fault {w : World} {A : Around} {E : Value → Shared → Prop} {s : Shared} {e dx : Addr} {vs : Array Value} {sl : Array (Option Value)} {es : List DictEntry} {n : Nat} {name : Str} {v : Value} {expr : Bool} {Q : Value → Shared → Prop} (X : (KF w.params).In s.heap)
    (he : s.heap.get? e = some (caughtO dx vs sl)) (hd' : s.heap.get? dx = some (dictOf es n)) (ha : findIn (KF w.params) (.ref 52) name = some none) (hl : getL name es = some (some v)) (hv : handedIn v = true) (h : Q v { s with toks := s.toks + 1 }) :
    wpAny (model Pr w) A (getAttr (.ref e) name expr) Q E s := by
  obtain ⟨hh, g, d, tk, os⟩ := s
  have I : InstAt hh e (caughtO dx vs sl) 52 (some (dictOf es n)) := ⟨he, rfl, rfl, hd'⟩
  have L0 : Looks (model Pr w) hh (typeOf (.ref e)) (.ref 52) := I.type
  have hga : findIn (KF w.params) (.ref 52) "__getattribute__" = some (some (.builtin "BaseException.__getattribute__")) := by k_is
  have hgt : findIn (KF w.params) (.ref 52) "__getattr__" = some none := by k_is
  have L1 := looks_findIn (M := model Pr w) X hga
  have L2 := looks_findIn (M := model Pr w) X hgt
  have hf : findObj (KF w.params) 52 (some (dictOf es n)) name = some (.value v) := findObj_own (by k_is) ha (by kernel_rfl) hl
  have L3 := looks_find (M := model Pr w) X I hf
  have sub : Looks (model Pr w) hh (isInstance (.ref e) (.type "BaseException")) true := L0.andThen (looks_mroIn X (by k_is))
  have FX := PySem.F.attr_Exception
  have f3 := FX.ga.bind (.ref e)
  have hx0 : (expr && onTheHeap (Value.builtin "BaseException.__getattribute__")) = false := by cases expr <;> rfl
  have hx2 : (Value.builtin "BaseException.__getattribute__" == Value.builtin "object.__getattribute__") = false := by decide +kernel
  have hx1 : (onTheHeap (Value.ref 52) && Value.builtin "BaseException.__getattribute__" == Value.builtin "object.__getattribute__") = false := by rw [hx2]; rfl
  change Looks (model Pr w) hh _ _ at L1 L2 L3
  unfold getAttr getAttrBy
  refine wpAny_bind (wpAny_mkText (wpAny_holding (wpAny_bind (L0.at (wpAny_bind (L1.at ?_))))))
  dsimp only
  rw [hx1, if_neg (by decide)]
  unfold getAttrByItsOwn
  have L4 : Looks (model Pr w) hh (hookBefore (.ref 52)) none := by
    unfold hookBefore
    exact Looks.of_peek X (by with_unfolding_all rfl)
  refine wpAny_bind (L4.at (wpAny_bind (wpAny_attempt (wpAny_holding ?_))))
  unfold callGetattribute
  rw [hx0, if_neg (by decide)]
  unfold boundAndCalled
  rw [f3]
  have hk : builtinKind "BaseException.__getattribute__" = some .slot := by decide +kernel
  have hsplit : splitId "BaseException.__getattribute__" = some ("BaseException", "__getattribute__") := by decide +kernel
  refine wpAny_bind (wpAny_pure (wpAny_call (codeAny_call_builtin FX.ga.plain PySem.F.entry_bexc_ga (@check_slot (model Pr w) _ _ ⟨hh, g, d, tk + 1, os⟩ "BaseException.__getattribute__" "BaseException" "__getattribute__" (.ref e) [.str name tk] [] _ hk hsplit sub (PySem.F.args_bexc_ga _ _) ?_))))
  unfold Builtin.«object.__getattribute__»
  repeat (any_goals (first | assumption | lk | wp_step))
  show wpAny _ _ (handedOut v) _ _ _
  rw [handedOut_of hv]
  exact wpAny_pure h
theorem meta_Exc : typeOf (.type "Exception") = pure (.type "type") := by kernel_rfl
end
local macro_rules | `(tactic| walk_at "getMethod type:Exception") => `(tactic| (k_here; refine' method_type ?F ?X ?m (by decide +kernel) ?e ?h ?_; (case F => k_asm); (case X => k_asm); (case m => exact meta_Exc); (case e => k_dflt k_is); (case h => k_handed)))
section
end
local macro_rules | `(tactic| walk_at "call builtin:Exception.__init__") => `(tactic| (k_here; k_dflt (refine' exc_init ?k1 ?k2 ?k3 ?k4 ?_; (case k1 => k_asm); (case k2 => k_asm); (case k3 => k_asm); (case k4 => k_all)); intro t' h' F' N' l1 l2; (try k_lt l1); (try k_lt2 l2); (try k_sweep)))
section
end
local macro_rules | `(tactic| walk_at "setAttr ref") => `(tactic| (k_here; k_dflt (refine' set_first ?k1 ?k2 ?k3 ?k4 ?k5 ?_; (case k1 => k_asm); (case k2 => k_asm); (case k3 => k_asm); (case k4 => k_all); (case k5 => k_is)); intro d' h' t1' t2' F' N' l1 l2; (try k_lt l1); (try k_lt2 l2); (try k_sweep)))
section
end
local macro_rules | `(tactic| walk_at "setAttr ref") => `(tactic| (k_here; k_dflt (refine' set_second ?k1 ?k2 ?k3 ?k4 ?k5 ?k6 ?k7 ?k8 ?_); (case k1 => k_asm); (case k2 => k_asm); (case k3 => k_asm); (case k4 => k_ne); (case k5 => k_all); (case k6 => k_dflt k_is); (case k7 => kernel_rfl); (case k8 => kernel_rfl); intro h' t1' t2' F' N'; (try k_sweep)))
section
end
local macro_rules | `(tactic| walk_at "setAttr ref") => `(tactic| (k_here; k_dflt (refine' set_third ?k1 ?k2 ?k3 ?k4 ?k5 ?k6 ?k7 ?k8 ?_); (case k1 => k_asm); (case k2 => k_asm); (case k3 => k_asm); (case k4 => k_ne); (case k5 => k_all); (case k6 => k_dflt k_is); (case k7 => kernel_rfl); (case k8 => kernel_rfl); intro h' t1' t2' F' N'; (try k_sweep)))
section
end
local macro_rules | `(tactic| walk_at "call ref") => `(tactic| (k_here; k_dflt (refine' call52 ?k1 ?k2 ?k3 ?_; (case k1 => k_asm); (case k2 => k_asm); (case k3 => k_asm); k_whole; intro x' d' h' F' N' l1 l2; (try k_lt l1); (try k_lt2 l2); (try k_sweep); k_enter)))
section
end
local macro_rules | `(tactic| walk_at "exec Raise some none") => `(tactic| (k_here; refine raise_stmt ?_))
section
end
local macro_rules | `(tactic| walk_at "raiseGo ref") => `(tactic| (k_here; k_dflt (refine' raise_go ?k1 ?k2 ?k3 ?_); (case k1 => k_in); (case k2 => exact News.get (by k_asm) (by k_mem)); (case k3 => first | rfl | assumption)))
section
end
local macro_rules | `(tactic| walk_at "leaving ref") => `(tactic| (k_here; first
  | (refine' leave_first ?k1 ?k2 ?k3 ?k4 ?_; (case k3 => k_asm); (case k1 => assumption); (case k2 => assumption); (case k4 => k_all); k_whole; intro h' R' U'; (try dsimp only at R' U' ⊢))
  | (refine' leave_on ?k1 ?k2 ?k3 ?k4 ?_; (case k3 => assumption); (case k2 => assumption); (case k1 => assumption); (case k4 => assumption); k_whole; intro h' R' U'; (try dsimp only at R' U' ⊢))))
section
end
local macro_rules | `(tactic| walk_at "noteFrame ref") => `(tactic| (k_here; k_dflt (refine' caught ?R ?F ?K ?U ?XB ?TB ?D ?T0 ?_); (case R => assumption); (case F => assumption); (case K => assumption); (case U => assumption); (case XB => assumption); (case TB => assumption); (case D => assumption); (case T0 => first | assumption | exact KtsTurn.refl); k_whole; intro h' g' vs' sl' tk' T' F' N' K' X' P' D'; (try k_sweep)))
section
end
local macro_rules | `(tactic| walk_at "getAttr ref") => `(tactic| (k_here; k_dflt (refine' get_fault ?X ?e ?d ?a ?l ?v ?_); (case X => k_in); (case e => exact News.get (by k_asm) (by k_mem)); (case d => exact News.get (by k_asm) (by k_mem)); (case a => k_dflt k_is); (case l => kernel_rfl); (case v => k_handed)))
section
abbrev TestS (w : World) (mean : ExcName → Option Value) (mg mb : Str → Option Value) (f : Addr) (news : List (Addr × Obj)) (vs : List Value) : Prop :=
  ∀ (dp un : Nat) (gd : Option (List Code)) (cn : Str) (cs : Scope) (a : Addr) (ccd : Value) (cl : List (Str × Addr)) (outer : List Env) (A₀ : Around) (base h₀ : Heap) (L : Addr) (m : Str → Option Value) (s : Shared) (Q E : Value → Shared → Prop),
    Below A₀ base outer h₀ → Fr h₀ L s.heap m → (KF w.params).In h₀ → News h₀ L s.heap news → Top Vw lo mean mg mb h₀ → (KF w.params).In base → Top Vw lo mean mg mb base → KtsDicts (outer.filterMap (·.frame)) h₀ → cs.kind = .function →
     dp + 12 < recursionLimit → un + 96 < cLine → (∀ v s', Q v s') →
      wpAny (model Pr w) (ktrTop dp un gd cn cs L a ccd cl outer) (call (.ref f) vs) Q E s
end
local macro_rules | `(tactic| walk_at "my_go") => `(tactic| first
  | (refine' enterS ?k1 ?k2 ?k3 ?k4 ?k5 ?XB ?TB ?D ?T0 ?kA ?kF ?kK ?k6 ?k7 ?k8 ?k9 ?kB ?_ ?c2 ?c3 ?c4 ?c5; (case kA => exact rfl); (case kF => exact rfl); (case kK => first | exact rfl | (dsimp only [envX]; assumption)); (case k2 => k_asm); (case k1 => k_asm); (case XB => assumption); (case TB => assumption); (case D => assumption); (case T0 => first | assumption | exact KtsTurn.refl); (case k3 => k_asm); (case k4 => k_asm); (case k5 => k_asm); (case k6 => k_is); (case k7 => k_is); (case k8 => k_room); (case k9 => first | exact BindsTo.of_eq rfl | exact binds_K (by k_in) rfl (by k_is) rfl rfl rfl | fail "my_go: no rule for these arguments"); (case c5 => decide); (case kB => exact locs rfl); (case c2 => exact rfl); (case c3 => exact rfl); (case c4 => exact rfl); k_whole; intro g' L' h' FG' F' N' B' X' T' D'; (try dsimp only); (try k_lift B'); (try k_fold))
  | (refine' enterCS ?k1 ?k2 ?k3 ?k4 ?k5 ?XB ?TB ?D ?T0 ?kA ?kF ?kK ?k6 ?k7 ?k8 ?k9 ?kB ?kD ?_ ?c2 ?c3 ?c4; (case kA => exact rfl); (case kF => exact rfl); (case kK => first | exact rfl | (dsimp only [envX]; assumption)); (case k2 => k_asm); (case k1 => k_asm); (case XB => assumption); (case TB => assumption); (case D => assumption); (case T0 => first | assumption | exact KtsTurn.refl); (case k3 => k_asm); (case k4 => k_asm); (case k5 => k_asm); (case k6 => k_is); (case k7 => k_is); (case k8 => k_room); (case k9 => first | exact BindsTo.of_eq rfl | exact binds_K (by k_in) rfl (by k_is) rfl rfl rfl | fail "my_go: no rule for these arguments"); (case kB => exact rfl); (case kD => decide +kernel); (case c2 => exact rfl); (case c3 => exact rfl); (case c4 => exact rfl); k_whole; intro g' L' h' tk' cells' FG' F' N' Y' B' X' T' D' l1; (try k_lt l1); k_cells Y'; (try simp only [List.cons_append, List.nil_append] at N'); (try dsimp only); (try k_lift B'); (try k_fold)))
section
end
local macro_rules | `(tactic| walk_at "call ref") => `(tactic| (k_here; (fail_if_success k_inElt); kts_any; k_dflt (refine wpAny_call ?_; walk_at "my_go")))
section
abbrev tint (k : Str) (n : Int) (t1 t2 t3 : Tok) : Obj := { cls := .type "tuple", data := .seq #[.str (Str.ofString "int") t1, .str k t2, .int n t3] 0 }
abbrev tbool (c : Bool) (t1 : Tok) : Obj := { cls := .type "tuple", data := .seq #[.str (Str.ofString "bool") t1, .bool c] 0 }
variable (w : World) (mean : ExcName → Option Value) (mg mb : Str → Option Value) (news : List (Addr × Obj)) (tk t1 t2 t3 : Tok) (kind : Str) (n : Int) (a b : Addr) (o : Obj)
section
variable {prog : Program} {w : World} {A : Around} {E : Value → Shared → Prop} {s : Shared} {a b : Addr} {x1 x2 y1 y2 : Int} {t1 t2 u1 u2 : Tok} {n n' : Nat}
theorem tuple_ge_tree {P : Fin → Shared → Prop} (ha : s.heap.get? a = some { cls := .type "tuple", data := .seq #[.int x1 t1, .int x2 t2] n }) (hb : s.heap.get? b = some { cls := .type "tuple", data := .seq #[.int y1 u1, .int y2 u2] n' })
    (h : P (.done (.ret (.bool (decide (y1 < x1 ∨ (x1 = y1 ∧ y2 ≤ x2)))))) s) :
    wpAny (model prog w) A (Builtin.«tuple.__ge__» ⟨[.ref a, .ref b], []⟩) P E s := by
  have hTb : s.TypeIs (.ref b) "tuple" := ⟨_, hb, rfl⟩
  show wpAny _ _ (isInstance (.ref b) (.type "tuple") >>= _) _ _ s
  refine wpAny_bind (wpAny_isInstance hTb isSubtype_tuple_tuple ?_)
  simp only [Bool.not_true, Bool.false_eq_true, if_false]
  refine wpAny_bind (wpAny_tupleItemsOf ha rfl ?_)
  refine wpAny_bind (wpAny_tupleItemsOf hb rfl ?_)
  simp only [List.zip_cons_cons, List.zip_nil_right, List.forIn_cons, List.forIn_nil]
  refine wpAny_bind (wpAny_bind (wpAny_bind (wpAny_eqBool_int ?_)))
  by_cases e1 : x1 = y1
  · rw [show (x1 == y1) = true by simp [e1]]
    simp only [Bool.not_true, Bool.false_eq_true, if_false]
    refine wpAny_pure ?_
    dsimp only
    refine wpAny_bind (wpAny_bind (wpAny_eqBool_int ?_))
    by_cases e2 : x2 = y2
    · rw [show (x2 == y2) = true by simp [e2]]
      simp only [Bool.not_true, Bool.false_eq_true, if_false]
      refine wpAny_pure ?_
      dsimp only
      refine wpAny_pure ?_
      dsimp only
      rw [show decide (y1 < x1 ∨ x1 = y1 ∧ y2 ≤ x2) = true by simp; omega] at h
      exact wpAny_pure h
    · rw [show (x2 == y2) = false by simp [e2]]
      simp only [Bool.not_false, if_true]
      refine wpAny_bind (wpAny_rule (wpAny_bind ?_))
      refine PyProof.Rows.ge_int (s := s) ?_
      refine wpAny_bind (wpAny_pure (wpAny_pure ?_))
      dsimp only
      refine wpAny_pure ?_
      dsimp only
      refine wpAny_pure ?_
      rw [show decide (y1 < x1 ∨ x1 = y1 ∧ y2 ≤ x2) = decide (y2 ≤ x2) by rw [decide_eq_decide]; omega] at h
      exact h
  · rw [show (x1 == y1) = false by simp [e1]]
    simp only [Bool.not_false, if_true]
    refine wpAny_bind (wpAny_rule (wpAny_bind ?_))
    refine PyProof.Rows.ge_int (s := s) ?_
    refine wpAny_bind (wpAny_pure (wpAny_pure ?_))
    dsimp only
    refine wpAny_pure ?_
    dsimp only
    refine wpAny_pure ?_
    rw [show decide (y1 < x1 ∨ x1 = y1 ∧ y2 ≤ x2) = decide (y1 ≤ x1) by rw [decide_eq_decide]; omega] at h
    exact h
theorem tuple_ge {Q : Value → Shared → Prop} (hu : A.units < cLine) (ha : s.heap.get? a = some { cls := .type "tuple", data := .seq #[.int x1 t1, .int x2 t2] n }) (hb : s.heap.get? b = some { cls := .type "tuple", data := .seq #[.int y1 u1, .int y2 u2] n' })
    (h : Q (.bool (decide (y1 < x1 ∨ (x1 = y1 ∧ y2 ≤ x2)))) s) : wpAny (model prog w) A (compareOp .GtE (.ref a) (.ref b)) Q E s := by
  have hTa : s.TypeIs (.ref a) "tuple" := ⟨_, ha, rfl⟩
  have hTb : s.TypeIs (.ref b) "tuple" := ⟨_, hb, rfl⟩
  refine cmp_ofGtE ?_
  exact wpAny_richCompare_same_room (op := .GtE) hTa hTb F.slot_tuple_ge
      (wpAny_call_entry F.slot_tuple_ge hTa F.entry_tuple_ge (tuple_ge_tree ha hb ⟨_, rfl, (fun e => nomatch e), h⟩) (F.args_tuple_ge_2 _ _)) hu
end
abbrev rowL : List Value := [.str (Str.ofString "Bool") 496, .str (Str.ofString "Int8") 497, .str (Str.ofString "UInt8") 498, .str (Str.ofString "Int16") 499, .str (Str.ofString "UInt16") 500,
  .str (Str.ofString "Int32") 501, .str (Str.ofString "UInt32") 502, .str (Str.ofString "Int64") 503, .str (Str.ofString "UInt64") 504, .str (Str.ofString "BigInt") 505]
theorem row_get : ∀ i, i < 10 → rowL[i]? = some (.str (nm i) (496 + i))
  | 0, _ => rfl | 1, _ => rfl | 2, _ => rfl | 3, _ => rfl | 4, _ => rfl | 5, _ => rfl | 6, _ => rfl | 7, _ => rfl | 8, _ => rfl | 9, _ => rfl
  | n + 10, h => absurd h (by omega)
def isS (x : Str) : Value → Bool
  | .str y _ => y == x
  | _ => false
theorem isS_row : ∀ i j, i < 10 → j < 10 → (decide (i = j)) = (nm i == nm j) := by
  have h : ((List.range 10).all fun i => (List.range 10).all fun j => decide (i = j) == (nm i == nm j)) = true := by decide +kernel
  intro i j hi hj
  have h1 := List.all_eq_true.mp h i (List.mem_range.mpr hi)
  exact eq_of_beq (List.all_eq_true.mp h1 j (List.mem_range.mpr hj))
theorem nm_inj {i j : Nat} (hi : i < 10) (hj : j < 10) (e : nm i = nm j) : i = j := by
  have := isS_row i j hi hj
  rw [e, beq_self_eq_true] at this
  exact of_decide_eq_true this
section
variable {prog : Program} {w : World} {A : Around} {E : Value → Shared → Prop} {s : Shared} {a : Addr} {t : Tok} {n : Nat}
theorem row_index {i : Nat} (hi : i < 10) {Q : Value → Shared → Prop} (hl : s.heap.get? a = some { cls := .type "list", dict := none, data := .seq rowL.toArray n, slots := #[] }) (hQ : Q (.int i s.toks) { s with toks := s.toks + 1 }) :
    wpAny (model prog w) A (call (.builtin "list.index") [.ref a, .str (nm i) t]) Q E s := by
  have key : ∀ m (hm : m < rowL.toArray.size), isS (nm i) rowL.toArray[m] = decide (m = i) := fun m hm => by
    have hm' : m < 10 := hm
    have e : rowL.toArray[m] = .str (nm m) (496 + m) := by
      have := row_get m hm'
      rw [List.getElem_toArray]
      exact Option.some.inj ((List.getElem?_eq_getElem (by exact hm')).symm.trans this)
    rw [e, isS_row m i hm' hi]; rfl
  refine call_meets PySem.F.slot_list_index ⟨_, hl, rfl⟩ PySem.F.entry_list_index (PySem.F.args_list_index_2 _ _)
    (MeetsSeq.list_index a rowL.toArray n (.str (nm i) t) (isS (nm i)) (fun y hy => ?_) i hi (by omega) (by rw [key i hi]; exact decide_eq_true rfl) (fun m hm hlt => by rw [key m hm]; exact decide_eq_false (by omega))) ⟨hl, hQ⟩
  have hy' : y ∈ rowL := by simpa using hy
  have : ∃ z u, y = .str z u := by
    simp only [rowL, List.mem_cons, List.not_mem_nil, or_false] at hy'
    rcases hy' with h | h | h | h | h | h | h | h | h | h <;> exact ⟨_, _, h⟩
  obtain ⟨z, u, rfl⟩ := this
  show MeetsSeq.EqGives _ _ (z == nm i)
  intro prog w A E s Q h
  first | exact eqBool_str h | exact PyProof.Rows.eqBool_str h | exact PySem.eqBool_str h | exact PyProof.eqBool_str h
end
theorem rank_le : ∀ i j, i < 10 → j < 10 → decide (rkA j < rkA i ∨ (rkA i = rkA j ∧ rkB j ≤ rkB i)) = decide (j ≤ i) := by
  have h : ((List.range 10).all fun i => (List.range 10).all fun j => decide (rkA j < rkA i ∨ (rkA i = rkA j ∧ rkB j ≤ rkB i)) == decide (j ≤ i)) = true := by decide +kernel
  intro i j hi hj
  have h1 := List.all_eq_true.mp h i (List.mem_range.mpr hi)
  exact eq_of_beq (List.all_eq_true.mp h1 j (List.mem_range.mpr hj))
theorem row_item {prog : Program} {w : World} {A : Around} {E : Value → Shared → Prop} {s : Shared} {h₀ : Heap} {L : Addr} {m : Str → Option Value} {value slice : Expr} {k : Int} {u : Tok} {Q : Value → Shared → Prop} (F : Fr h₀ L s.heap m) (X : (KF w.params).In h₀)
    (h0 : 0 ≤ k) (h1 : k < 10) (h : Q (.str (nm k.toNat) (496 + k.toNat)) s)
    (hs : subscripted slice false (.ref 245) (.int k u) = operate [.ref 245, .int k u] (getItem (.ref 245) (.int k u)) := by with_unfolding_all rfl) :
    wpAny (model prog w) A (subscriptTail value slice (.ref 245) (.int k u)) Q E s :=
  topList_K (l := rowL) (n := 0) (dd := none) (sl := #[]) F X (by rfl) h0 (by omega) (row_get k.toNat (by omega)) h hs
end
section
def wd : Nat → Int
  | 1 => 8 | 2 => 8 | 3 => 16 | 4 => 16 | 5 => 32 | 6 => 32 | _ => 64
def sgn : Nat → Bool
  | 2 => false | 4 => false | 6 => false | 8 => false | _ => true
theorem nm_len (i : Nat) : (0 : Int) < ((nm i).length : Int) := by
  match i with
  | 0 => decide | 1 => decide | 2 => decide | 3 => decide | 4 => decide | 5 => decide | 6 => decide | 7 => decide | 8 => decide
  | n + 9 => show (0 : Int) < ((Str.ofString "BigInt").length : Int); decide
theorem nm_sgn : ∀ i, i < 10 → (PySem.Txt.item (nm i) 0 != Str.ofString "U") = sgn i := by
  have h : ((List.range 10).all fun i => (PySem.Txt.item (nm i) 0 != Str.ofString "U") == sgn i) = true := by decide +kernel
  intro i hi
  exact eq_of_beq (List.all_eq_true.mp h i (List.mem_range.mpr hi))
theorem wd_in (P : Params) : ∀ i, 0 < i → i < 9 → ∃ t, nsIn (KF P) 90 (nm i) = some (some (.int (wd i) t))
  | 0, h, _ => absurd h (by omega)
  | 1, _, _ => ⟨288, by kernel_rfl⟩ | 2, _, _ => ⟨296, by kernel_rfl⟩ | 3, _, _ => ⟨290, by kernel_rfl⟩ | 4, _, _ => ⟨298, by kernel_rfl⟩
  | 5, _, _ => ⟨292, by kernel_rfl⟩ | 6, _, _ => ⟨300, by kernel_rfl⟩ | 7, _, _ => ⟨294, by kernel_rfl⟩ | 8, _, _ => ⟨302, by kernel_rfl⟩
  | n + 9, _, h => absurd h (by omega)
theorem big_9 {i : Nat} (hi : i < 10) (h : (nm i == Str.ofString "BigInt") = true) : i = 9 := nm_inj hi (by decide) (eq_of_beq h)
theorem big_no {i : Nat} (hi : i < 10) (h : (nm i == Str.ofString "BigInt") = false) : i < 9 := by
  by_cases e : i = 9
  · subst e
    exact absurd h (by decide)
  · omega
theorem wd_r : ∀ i, 8 ≤ wd i ∧ wd i ≤ 64
  | 0 => by decide | 1 => by decide | 2 => by decide | 3 => by decide | 4 => by decide | 5 => by decide | 6 => by decide | 7 => by decide
  | n + 8 => by show (8 : Int) ≤ 64 ∧ (64 : Int) ≤ 64; decide
theorem neBool1 {i : Nat} (h : 0 < i) (h' : i < 10) : (nm i == Str.ofString "Bool") = false := by
  have e := isS_row i 0 h' (by decide)
  have : (nm i == nm 0) = false := by rw [← e]; exact decide_eq_false (by omega)
  exact this
theorem neBig1 {i : Nat} (h : i < 9) : (nm i == Str.ofString "BigInt") = false := by
  have e := isS_row i 9 (by omega) (by decide)
  have : (nm i == nm 9) = false := by rw [← e]; exact decide_eq_false (by omega)
  exact this
theorem wrap_f : ∀ i, 0 < i → i < 9 → ∀ n, wrapZ i n = if sgn i = true then (if 2 ^ Int.toNat (wd i - 1) ≤ n.fmod (2 ^ Int.toNat (wd i)) then n.fmod (2 ^ Int.toNat (wd i)) - 2 ^ Int.toNat (wd i) else n.fmod (2 ^ Int.toNat (wd i))) else n.fmod (2 ^ Int.toNat (wd i))
  | 0, h, _, _ => absurd h (by omega)
  | 1, _, _, _ => rfl | 2, _, _, _ => rfl | 3, _, _, _ => rfl | 4, _, _, _ => rfl | 5, _, _, _ => rfl | 6, _, _, _ => rfl | 7, _, _, _ => rfl | 8, _, _, _ => rfl
  | n + 9, _, h, _ => absurd h (by omega)
theorem rk_B : ∀ i, i < 10 → 0 < i → (if (!sgn i) = true then (1 : Int) else 0) = rkB i := by
  have h : ((List.range 10).all fun i => decide (0 < i → (if (!sgn i) = true then (1 : Int) else 0) = rkB i)) = true := by decide +kernel
  intro i hi h0
  exact of_decide_eq_true (List.all_eq_true.mp h i (List.mem_range.mpr hi)) h0
theorem rk_wd : ∀ i, 0 < i → i < 9 → wd i = rkA i ∧ (sgn i = true → 0 - 2 ^ Int.toNat (wd i - 1) = lowF i ∧ 2 ^ Int.toNat (wd i - 1) - 1 = highF i) ∧ (sgn i = false → 0 = lowF i ∧ 2 ^ Int.toNat (wd i) - 1 = highF i) := by
  have h : ((List.range 9).all fun i => decide (0 < i → wd i = rkA i ∧ (sgn i = true → 0 - 2 ^ Int.toNat (wd i - 1) = lowF i ∧ 2 ^ Int.toNat (wd i - 1) - 1 = highF i) ∧ (sgn i = false → 0 = lowF i ∧ 2 ^ Int.toNat (wd i) - 1 = highF i))) = true := by decide +kernel
  intro i h0 hi
  exact of_decide_eq_true (List.all_eq_true.mp h i (List.mem_range.mpr hi)) h0
section
variable {w : World} {A : Around} {E : Value → Shared → Prop} {s : Shared} {h₀ : Heap} {L : Addr} {m : Str → Option Value} {i : Nat} {t u : Tok} {Q : Value → Shared → Prop} {value slice : Expr}
theorem eq_no1 {prog : Program} {x y : Str} {t u : Tok} (h : (x == y) = false) (hq : Q (.bool false) s) : wpAny (model prog w) A (compareOp .Eq (.str x t) (.str y u)) Q E s := by
  refine eq_str ?_
  rw [h]
  exact hq
theorem wd_item (h0 : 0 < i) (hi : i < 10) (ng : (nm i == Str.ofString "BigInt") = false) (F : Fr h₀ L s.heap m) (X : (KF w.params).In h₀) (h : ∀ t', Q (.int (wd i) t') { s with toks := s.toks + 1 })
    (hs : subscripted slice false (.ref 90) (.str (nm i) u) = operate [.ref 90, .str (nm i) u] (getItem (.ref 90) (.str (nm i) u)) := by with_unfolding_all rfl) : wpAny (model Pr w) A (subscriptTail value slice (.ref 90) (.str (nm i) u)) Q E s := by
  obtain ⟨t', e⟩ := wd_in w.params i h0 (big_no hi ng)
  exact topItem_K F X (by k_is) (by k_keys) e (h t') hs
end
section
variable (w : World) (mean : ExcName → Option Value) (mg mb : Str → Option Value) (tk t1 : Tok) (n : Int) (i : Nat)
theorem sgn_c (hi : i < 10) : CtV w mean mg mb 4 32 111 [.str (nm i) tk] (fun _ => .bool (sgn i)) := by
  have hlen := nm_len i
  intro dp un gd cn cs a' ccd cl outer A₀ base h₀ L m s news Q E B F X N T hk hdp hu hret; refine wpAny_call ?_; (k_dflt cell_enter)
  k_steps
  exact cb_retB hret (nm_sgn i hi) (by assumption) (by assumption)
end
end
local macro_rules | `(tactic| walk_at "call ref") => `(tactic| (k_here; (with_reducible show wpAny _ _ (call (Value.ref 111) [Value.str (nm _) _]) _ _ _); k_dflt (refine' use_V (sgn_c _ _ _ _ _ _ ?hi) ?B ?F ?X ?N ?T ?hk ?dp ?un ?_; (case hi => with_reducible assumption); walk_at "use_args"; k_whole; intro t1' h' tk' F' N'; (try k_sweep))))
section
section
variable (w : World) (mean : ExcName → Option Value) (mg mb : Str → Option Value) (tk t1 : Tok) (n : Int) (i : Nat)
end
end
local macro_rules | `(tactic| walk_at "subscriptTail") => `(tactic| (k_here; (with_reducible show wpAny _ _ (subscriptTail _ _ (Value.ref 90) (Value.str (nm _) _)) _ _ _); k_dflt (refine' wd_item ?h0 ?hi ?ng ?F ?X ?_; (case h0 => with_reducible assumption); (case hi => with_reducible assumption); (case ng => assumption); (case F => k_asm); (case X => k_in); k_whole; intro t')))
section
section
variable (w : World) (mean : ExcName → Option Value) (mg mb : Str → Option Value) (tk t1 : Tok) (n : Int) (i : Nat)
end
end
local macro_rules | `(tactic| walk_at "binaryOp Pow int int") => `(tactic| (k_here; (with_reducible refine pow_int_small ?kb1 ?kb2 ?kb3 ?_); (case kb1 => first | decide | omega); (case kb2 => first | decide | omega); (case kb3 => decide)))
section
section
variable (w : World) (mean : ExcName → Option Value) (mg mb : Str → Option Value) (tk t1 : Tok) (n : Int) (i : Nat)
theorem bits_c (h0 : 0 < i) (hi : i < 10) : CtV w mean mg mb 8 64 104 [.str (nm i) tk] (fun t => .int (rkA i) t) := by
  intro dp un gd cn cs a' ccd cl outer A₀ base h₀ L m s news Q E B F X N T hk hdp hu hret; refine wpAny_call ?_; (k_dflt cell_enter)
  k_steps
  · have e9 := big_9 hi (by assumption)
    subst e9
    exact cb_retI hret rfl (by assumption) (by assumption)
  · exact cb_retI hret (rk_wd i h0 (big_no hi (by assumption))).1 (by assumption) (by assumption)
theorem least_c (h0 : 0 < i) (hi : i < 10) : CtV w mean mg mb 8 64 118 [.str (nm i) tk] (fun t => .int (lowF i) t) := by
  have hw := wd_r i
  intro dp un gd cn cs a' ccd cl outer A₀ base h₀ L m s news Q E B F X N T hk hdp hu hret; refine wpAny_call ?_; (k_dflt cell_enter)
  k_steps
  · have e9 := big_9 hi (by assumption)
    subst e9
    exact cb_retI hret rfl (by assumption) (by assumption)
  · exact cb_retI hret ((rk_wd i h0 (big_no hi (by assumption))).2.1 (by assumption)).1 (by assumption) (by assumption)
  · exact cb_retI hret ((rk_wd i h0 (big_no hi (by assumption))).2.2 (by assumption)).1 (by assumption) (by assumption)
theorem greatest_c (h0 : 0 < i) (hi : i < 10) : CtV w mean mg mb 8 64 125 [.str (nm i) tk] (fun t => .int (highF i) t) := by
  have hw := wd_r i
  intro dp un gd cn cs a' ccd cl outer A₀ base h₀ L m s news Q E B F X N T hk hdp hu hret; refine wpAny_call ?_; (k_dflt cell_enter)
  k_steps
  · have e9 := big_9 hi (by assumption)
    subst e9
    exact cb_retI hret rfl (by assumption) (by assumption)
  · exact cb_retI hret ((rk_wd i h0 (big_no hi (by assumption))).2.1 (by assumption)).2 (by assumption) (by assumption)
  · exact cb_retI hret ((rk_wd i h0 (big_no hi (by assumption))).2.2 (by assumption)).2 (by assumption) (by assumption)
end
end
local macro_rules | `(tactic| walk_at "call ref") => `(tactic| (k_here; (first | (with_reducible show wpAny _ _ (call (Value.ref 104) [Value.str (nm _) _]) _ _ _) | (with_reducible show wpAny _ _ (call (Value.ref 118) [Value.str (nm _) _]) _ _ _) | (with_reducible show wpAny _ _ (call (Value.ref 125) [Value.str (nm _) _]) _ _ _)); k_dflt ((first | refine' use_V (bits_c _ _ _ _ _ _ ?h0 ?hi) ?B ?F ?X ?N ?T ?hk ?dp ?un ?_ | refine' use_V (least_c _ _ _ _ _ _ ?h0 ?hi) ?B ?F ?X ?N ?T ?hk ?dp ?un ?_ | refine' use_V (greatest_c _ _ _ _ _ _ ?h0 ?hi) ?B ?F ?X ?N ?T ?hk ?dp ?un ?_); (case h0 => with_reducible assumption); (case hi => with_reducible assumption); walk_at "use_args"; k_whole; intro t1' h' tk' F' N'; (try k_sweep))))
section
section
variable (w : World) (mean : ExcName → Option Value) (mg mb : Str → Option Value) (tk t1 : Tok) (n : Int) (i : Nat)
end
end
local macro_rules | `(tactic| walk_at "compareOp Eq str str") => `(tactic| (k_here; with_reducible refine eq_no1 (by assumption) ?_))
section
section
variable (w : World) (mean : ExcName → Option Value) (mg mb : Str → Option Value) (tk t1 : Tok) (n : Int) (i : Nat)
theorem fits_c (i : Nat) (h0 : 0 < i) (hi : i < 10) : CtV w mean mg mb 12 96 132 [.str (nm i) tk, .int n t1] (fun _ => .bool (decide (lowF i ≤ n ∧ n ≤ highF i))) := by
  intro dp un gd cn cs a' ccd cl outer A₀ base h₀ L m s news Q E B F X N T hk hdp hu hret; refine wpAny_call ?_; (k_dflt cell_enter)
  k_steps
  · exact cb_retB hret (decide_eq_decide.mpr ⟨fun h => ⟨by assumption, h⟩, fun h => h.2⟩) (by assumption) (by assumption)
  · exact cb_retB hret (decide_eq_decide.mpr ⟨fun h => absurd h (by assumption), fun h => absurd h.1 (by assumption)⟩) (by assumption) (by assumption)
theorem wrapped_c (i : Nat) (h0 : 0 < i) (h9 : i < 9) : CtV w mean mg mb 12 96 146 [.str (nm i) tk, .int n t1] (fun t => .int (wrapZ i n) t) := by
  have hw := wd_r i
  have hi : i < 10 := by omega
  have ng := neBig1 h9
  intro dp un gd cn cs a' ccd cl outer A₀ base h₀ L m s news Q E B F X N T hk hdp hu hret; refine wpAny_call ?_; (k_dflt cell_enter)
  k_steps
  · rename sgn i = true => hs
    rename _ ≤ _ => hc
    exact cb_retI hret (by rw [wrap_f i h0 h9, if_pos hs, if_pos hc]) (by assumption) (by assumption)
  · rename sgn i = true => hs
    rename ¬ _ ≤ _ => hc
    exact cb_retI hret (by rw [wrap_f i h0 h9, if_pos hs, if_neg hc]) (by assumption) (by assumption)
  · rename sgn i = false => hs
    exact cb_retI hret (by rw [wrap_f i h0 h9, if_neg (by rw [hs]; decide)]) (by assumption) (by assumption)
theorem rank_p (i : Nat) (h0 : 0 < i) (hi : i < 10) : CtT w mean mg mb 12 96 174 [.str (nm i) tk] (fun t1 t2 _ => pairO (rkA i) t1 (rkB i) t2) := by
  have ng := neBool1 h0 hi
  intro dp un gd cn cs a' ccd cl outer A₀ base h₀ L m s news Q E B F X N T hk hdp hu hret; refine wpAny_call ?_; (k_dflt cell_enter)
  k_steps
  exact hret _ _ _ _ _ 0 (by assumption) (by rw [← rk_B i hi h0]; assumption) (by first | assumption | exact lt_of_news (by assumption))
theorem rank_c (i : Nat) (hi : i < 10) : CtT w mean mg mb 12 96 174 [.str (nm i) tk] (fun t1 t2 _ => pairO (rkA i) t1 (rkB i) t2) := by
  rcases Nat.eq_zero_or_pos i with rfl | h0
  · exact ra0 w mean mg mb tk
  · exact rank_p w mean mg mb tk i h0 hi
end
end
section
variable (w : World) (mean : ExcName → Option Value) (mg mb : Str → Option Value) (news : List (Addr × Obj)) (tk t1 t2 t3 : Tok) (kind : Str) (n : Int) (a b : Addr) (o : Obj)
end
local macro_rules | `(tactic| k_units) => `(tactic| ((try simp only [units_in1, units_deeper, Around.mark_units, units_caller]); (try dsimp only [ktrTop]); omega))
section
variable (w : World) (mean : ExcName → Option Value) (mg mb : Str → Option Value) (news : List (Addr × Obj)) (tk t1 t2 t3 : Tok) (kind : Str) (n : Int) (a b : Addr) (o : Obj)
end
local macro_rules | `(tactic| walk_at "call ref") => `(tactic| (k_here; k_dflt (refine' use_T (rank_c _ _ _ _ _ _ ?hi) ?B ?F ?X ?N ?T ?hk ?dp ?un ?_; (case hi => first | assumption | decide | omega); walk_at "use_args"; k_whole; intro x' h' tk' t1' t2' t3' F' N' l1; (try k_lt l1); (try k_sweep))))
section
variable (w : World) (mean : ExcName → Option Value) (mg mb : Str → Option Value) (news : List (Addr × Obj)) (tk t1 t2 t3 : Tok) (kind : Str) (n : Int) (a b : Addr) (o : Obj)
end
local macro_rules | `(tactic| walk_at "compareOp GtE ref") => `(tactic| (k_here; k_dflt (refine' tuple_ge ?hu ?ha ?hb ?_; (case hu => k_units); (case ha => exact News.get (by k_asm) (by k_mem)); (case hb => exact News.get (by k_asm) (by k_mem)); k_whole)))
section
variable (w : World) (mean : ExcName → Option Value) (mg mb : Str → Option Value) (news : List (Addr × Obj)) (tk t1 t2 t3 : Tok) (kind : Str) (n : Int) (a b : Addr) (o : Obj)
variable (i j : Nat)
theorem any_big {i j : Nat} (hi : i < 10) (hj : j < 10) (h : ([nm i, nm j].any fun x => x == Str.ofString "BigInt") = true) : Str.ofString "BigInt" = nm (max i j) := by
  have e9 : Str.ofString "BigInt" = nm 9 := rfl
  have : i = 9 ∨ j = 9 := by
    simp only [List.any_cons, List.any_nil, Bool.or_false, Bool.or_eq_true, beq_iff_eq] at h
    rcases h with h | h
    · exact .inl (nm_inj hi (by decide) h)
    · exact .inr (nm_inj hj (by decide) h)
  have : max i j = 9 := by omega
  rw [this]
  exact e9
theorem nm_ge {i j : Nat} (hi : i < 10) (hj : j < 10) (h : rkA j < rkA i ∨ rkA i = rkA j ∧ rkB j ≤ rkB i) : nm i = nm (max i j) := by
  have e := rank_le i j hi hj
  rw [decide_eq_true h] at e
  have := of_decide_eq_true e.symm
  rw [Nat.max_eq_left this]
theorem nm_lt {i j : Nat} (hi : i < 10) (hj : j < 10) (h : ¬(rkA j < rkA i ∨ rkA i = rkA j ∧ rkB j ≤ rkB i)) : nm j = nm (max i j) := by
  have e := rank_le i j hi hj
  rw [decide_eq_false h] at e
  have := of_decide_eq_false e.symm
  rw [Nat.max_eq_right (by omega)]
theorem promoted_c (hi : i < 10) (hj : j < 10) : CtV w mean mg mb 24 200 181 [.str (nm i) tk, .str (nm j) t1] (fun t => .str (nm (max i j)) t) := by
  intro dp un gd cn cs a' ccd cl outer A₀ base h₀ L m s news Q E B F X N T hk hdp hu hret; refine wpAny_call ?_; (k_dflt cell_enter)
  k_steps
  · exact cb_retS hret (any_big hi hj (by assumption)) (by assumption) (drop1 (by assumption))
  · exact cb_retS hret (nm_ge hi hj (by assumption)) (by assumption) (drop1 (drop1 (drop1 (by assumption))))
  · exact cb_retS hret (nm_lt hi hj (by assumption)) (by assumption) (drop1 (drop1 (drop1 (by assumption))))
abbrev lstO (d0 : Int) (t0 : Tok) (d1 : Int) (t1 : Tok) (n : Nat) : Obj := { cls := .type "list", data := .seq #[.int d0 t0, .int d1 t1] n }
end
local macro_rules | `(tactic| k_all) => `(tactic| assumption)
section
variable (w : World) (mean : ExcName → Option Value) (mg mb : Str → Option Value) (news : List (Addr × Obj)) (tk t1 t2 t3 : Tok) (kind : Str) (n : Int) (a b : Addr) (o : Obj)
variable (i j : Nat)
abbrev NextC (w : World) (mean : ExcName → Option Value) (mg mb : Str → Option Value) (most : Int) (tk : Tok) : Prop :=
  ∀ (dp un : Nat) (gd : Option (List Code)) (cn : Str) (cs : Scope) (c : Addr) (ccd : Value) (cl : List (Str × Addr)) (outer : List Env) (A₀ : Around) (base h₀ : Heap) (L : Addr) (m : Str → Option Value) (s : Shared) (a : Addr) (d0 d1 : Int) (t0 t1 : Tok) (rest : List (Addr × Obj)) (Q E : Value → Shared → Prop),
    Below A₀ base outer h₀ → Fr h₀ L s.heap m → (KF w.params).In h₀ → News h₀ L s.heap ((a, lstO d0 t0 d1 t1 0) :: rest) → Top Vw lo mean mg mb h₀ → cs.kind = .function →
     dp + 12 < recursionLimit → un + 96 < cLine → (∀ p ∈ rest, p.1 ≠ a) → 0 ≤ d0 → 0 ≤ d1 →
     (∀ (e0 e1 r : Int) (u0 u1 ur : Tok) (h' : Heap) (tk : Nat), 0 ≤ e0 → 0 ≤ e1 → 0 ≤ r → r < most → Fr h₀ L h' m → News h₀ L h' ((a, lstO e0 u0 e1 u1 0) :: rest) → Q (.int r ur) { s with heap := h', toks := tk }) →
      wpAny (model Pr w) (ktrTop dp un gd cn cs L c ccd cl outer) (call (.ref 259) [.ref a, .int most tk]) Q E s
theorem fdiv_nn {a b : Int} (ha : 0 ≤ a) (hb : 0 < b) : 0 ≤ a.fdiv b := Int.fdiv_nonneg ha (by omega)
theorem fmod_nn (a : Int) {b : Int} (hb : 0 < b) : 0 ≤ a.fmod b := Int.fmod_nonneg_of_pos a hb
theorem fmod_lt (a : Int) {b : Int} (hb : 0 < b) : a.fmod b < b := Int.fmod_lt_of_pos a hb
theorem next10 : NextC w mean mg mb 10 tk := by
  intro dp un gd cn cs c ccd cl outer A₀ base h₀ L m s a d0 d1 t0 t1 rest Q E B F X N T hk hdp hu hne h0 h1 hret; refine wpAny_call ?_; (k_dflt cell_enter)
  k_steps
  · exact hret _ _ _ _ _ _ _ _ (fdiv_nn (b := 10) h0 (by decide)) h1 (fmod_nn _ (b := 10) (by decide)) (fmod_lt _ (b := 10) (by decide)) (by assumption) (by assumption)
  · exact hret _ _ _ _ _ _ _ _ h0 (fmod_nn _ (b := 2147483563) (by decide)) (fmod_nn _ (b := 10) (by decide)) (fmod_lt _ (b := 10) (by decide)) (by assumption) (by assumption)
theorem next6 : NextC w mean mg mb 6 tk := by
  intro dp un gd cn cs c ccd cl outer A₀ base h₀ L m s a d0 d1 t0 t1 rest Q E B F X N T hk hdp hu hne h0 h1 hret; refine wpAny_call ?_; (k_dflt cell_enter)
  k_steps
  · exact hret _ _ _ _ _ _ _ _ (fdiv_nn (b := 6) h0 (by decide)) h1 (fmod_nn _ (b := 6) (by decide)) (fmod_lt _ (b := 6) (by decide)) (by assumption) (by assumption)
  · exact hret _ _ _ _ _ _ _ _ h0 (fmod_nn _ (b := 2147483563) (by decide)) (fmod_nn _ (b := 6) (by decide)) (fmod_lt _ (b := 6) (by decide)) (by assumption) (by assumption)
section
variable {w : World} {mean : ExcName → Option Value} {mg mb : Str → Option Value}
  {dp un : Nat} {gd : Option (List Code)} {cn : Str} {cs : Scope} {c a : Addr} {ccd : Value} {cl : List (Str × Addr)} {outer : List Env} {A₀ : Around} {base h₀ : Heap} {L : Addr} {m : Str → Option Value} {s : Shared} {news : List (Addr × Obj)} {Q E : Value → Shared → Prop}
theorem use_next {most : Int} {tk : Tok} {d0 d1 : Int} {t0 t1 : Tok} {g : Obj → List (Addr × Obj)} (C : NextC w mean mg mb most tk) (U : UpdF a (lstO d0 t0 d1 t1 0) news g) (h0 : 0 ≤ d0) (h1 : 0 ≤ d1)
    (B : Below A₀ base outer h₀) (F : Fr h₀ L s.heap m) (X : (KF w.params).In h₀) (N : News h₀ L s.heap news) (T : Top Vw lo mean mg mb h₀) (hk : cs.kind = .function)
    (hd' : dp + 12 < recursionLimit) (hu : un + 96 < cLine) (h : ∀ (e0 e1 r : Int) (u0 u1 ur : Tok) (h' : Heap) (tk : Nat), 0 ≤ e0 → 0 ≤ e1 → 0 ≤ r → r < most → Fr h₀ L h' m → News h₀ L h' (g (lstO e0 u0 e1 u1 0)) → Q (.int r ur) { s with heap := h', toks := tk }) :
    wpAny (model Pr w) (ktrTop dp un gd cn cs L c ccd cl outer) (call (.ref 259) [.ref a, .int most tk]) Q E s := by
  obtain ⟨pre, post, rfl, hg, n1, n2⟩ := U.split
  refine C dp un gd cn cs c ccd cl outer A₀ base h₀ L m s a d0 d1 t0 t1 (pre ++ post) Q E B F X (fun p hp => N p ?_) T hk hd' hu (fun p hp => ?_) h0 h1 (fun e0 e1 r u0 u1 ur h' tk p0 p1 p2 p3 F' N' => h e0 e1 r u0 u1 ur h' tk p0 p1 p2 p3 F' fun p hp => N' p ?_)
  · rcases List.mem_cons.mp hp with rfl | hp
    · exact List.mem_append_right _ (.head _)
    · rcases List.mem_append.mp hp with hp | hp
      · exact List.mem_append_left _ hp
      · exact List.mem_append_right _ (.tail _ hp)
  · rcases List.mem_append.mp hp with hp | hp
    · exact n1 p hp
    · exact n2 p hp
  · rw [hg] at hp
    rcases List.mem_append.mp hp with hp | hp
    · exact .tail _ (List.mem_append_left _ hp)
    · rcases List.mem_cons.mp hp with rfl | hp
      · exact .head _
      · exact .tail _ (List.mem_append_right _ hp)
end
end
local macro_rules | `(tactic| walk_at "call ref") => `(tactic| (k_here; k_dflt (refine' use_T (bounds_c _ _ _ _ _ _ ?hi) ?B ?F ?X ?N ?T ?hk ?dp ?un ?_; (case hi => first | assumption | decide | omega); walk_at "use_args"; k_whole; intro x' h' tk' t1' t2' t3' F' N' l1; (try k_lt l1); (try k_sweep))))
section
variable (w : World) (mean : ExcName → Option Value) (mg mb : Str → Option Value) (news : List (Addr × Obj)) (tk t1 t2 t3 : Tok) (kind : Str) (n : Int) (a b : Addr) (o : Obj)
variable (i j : Nat)
end
local macro_rules | `(tactic| walk_at "call ref") => `(tactic| (k_here; k_dflt ((first | refine' use_next (next10 _ _ _ _ _) ?U ?h0 ?h1 ?B ?F ?X ?N ?T ?hk ?dp ?un ?_ | refine' use_next (next6 _ _ _ _ _) ?U ?h0 ?h1 ?B ?F ?X ?N ?T ?hk ?dp ?un ?_); walk_at "use_args"; (case U => k_updF); (case h0 => assumption); (case h1 => assumption); k_whole; intro e0' e1' r' u0' u1' ur' h' tk' p0' p1' p2' p3' F' N'; (try dsimp only at N'); (try k_sweep))))
section
variable (w : World) (mean : ExcName → Option Value) (mg mb : Str → Option Value) (news : List (Addr × Obj)) (tk t1 t2 t3 : Tok) (kind : Str) (n : Int) (a b : Addr) (o : Obj)
variable (i j : Nat)
end
local macro_rules | `(tactic| walk_at "subscriptTail") => `(tactic| (k_here; (with_reducible show wpAny _ _ (subscriptTail _ _ (Value.ref _) (Value.int _ _)) _ _ _); k_dflt (refine' row_item ?F ?X ?h0 ?h1 ?_; (case F => k_asm); (case X => k_in); (case h0 => first | assumption | omega); (case h1 => first | assumption | omega))))
section
variable (w : World) (mean : ExcName → Option Value) (mg mb : Str → Option Value) (news : List (Addr × Obj)) (tk t1 t2 t3 : Tok) (kind : Str) (n : Int) (a b : Addr) (o : Obj)
variable (i j : Nat)
theorem lt_allLt {d : Addr} : ∀ {l : List (Addr × Obj)}, AllLt d l → ∀ q ∈ l, q.1 < d
  | [], _, q, hq => nomatch hq
  | p :: r, h, q, hq => by
    rcases List.mem_cons.mp hq with rfl | hq
    · exact h.1
    · exact lt_allLt h.2 q hq
theorem low_le : ∀ i, i < 10 → lowZ i ≤ 0 ∧ 1 ≤ highZ i := by
  have h : ((List.range 10).all fun i => decide (lowZ i ≤ 0 ∧ 1 ≤ highZ i)) = true := by decide +kernel
  intro i hi
  exact of_decide_eq_true (List.all_eq_true.mp h i (List.mem_range.mpr hi))
theorem pick_ok {lw hg : Int} (h : lw ≤ 0 ∧ 1 ≤ hg) {r : Int} (h0 : 0 ≤ r) (h1 : r < 6) :
    lw ≤ ([lw, hg, 0, 1, if -5 > lw then -5 else lw, if 200 < hg then 200 else hg].getD r.toNat 0) ∧ ([lw, hg, 0, 1, if -5 > lw then -5 else lw, if 200 < hg then 200 else hg].getD r.toNat 0) ≤ hg := by
  have : r.toNat = 0 ∨ r.toNat = 1 ∨ r.toNat = 2 ∨ r.toNat = 3 ∨ r.toNat = 4 ∨ r.toNat = 5 := by omega
  rcases this with e | e | e | e | e | e <;> rw [e]
  · show lw ≤ lw ∧ lw ≤ hg; omega
  · show lw ≤ hg ∧ hg ≤ hg; omega
  · show lw ≤ 0 ∧ 0 ≤ hg; omega
  · show lw ≤ 1 ∧ 1 ≤ hg; omega
  · show lw ≤ (if -5 > lw then -5 else lw) ∧ (if -5 > lw then -5 else lw) ≤ hg; split <;> omega
  · show lw ≤ (if 200 < hg then 200 else hg) ∧ (if 200 < hg then 200 else hg) ≤ hg; split <;> omega
theorem nm_ne0 {i : Nat} (h : (nm i == Str.ofString "Bool") = false) : 0 < i := by
  rcases i with _ | i
  · exact absurd h (by decide)
  · omega
abbrev ValueC (w : World) (mean : ExcName → Option Value) (mg mb : Str → Option Value) : Prop :=
  ∀ (dp un : Nat) (gd : Option (List Code)) (cn : Str) (cs : Scope) (c : Addr) (ccd : Value) (cl : List (Str × Addr)) (outer : List Env) (A₀ : Around) (base h₀ : Heap) (L : Addr) (m : Str → Option Value) (s : Shared) (a : Addr) (d0 d1 : Int) (t0 t1 : Tok) (rest : List (Addr × Obj)) (Q E : Value → Shared → Prop),
    Below A₀ base outer h₀ → Fr h₀ L s.heap m → (KF w.params).In h₀ → News h₀ L s.heap ((a, lstO d0 t0 d1 t1 0) :: rest) → Top Vw lo mean mg mb h₀ → cs.kind = .function →
     dp + 24 < recursionLimit → un + 200 < cLine → (∀ p ∈ rest, p.1 ≠ a) → 0 ≤ d0 → 0 ≤ d1 →
     (∀ (x : Addr) (b : Bool) (e0 e1 : Int) (u0 u1 ub : Tok) (h' : Heap) (tk : Nat), 0 ≤ e0 → 0 ≤ e1 → Fr h₀ L h' m → News h₀ L h' ((x, tbool b ub) :: (a, lstO e0 u0 e1 u1 0) :: rest) → a < x → (∀ q ∈ rest, q.1 < x) → Q (.ref x) { s with heap := h', toks := tk }) →
     (∀ (x : Addr) (i : Nat) (n : Int) (e0 e1 : Int) (u0 u1 v1 v2 v3 : Tok) (h' : Heap) (tk : Nat), 0 < i → i < 10 → lowZ i ≤ n → n ≤ highZ i → 0 ≤ e0 → 0 ≤ e1 → Fr h₀ L h' m → News h₀ L h' ((x, tint (nm i) n v1 v2 v3) :: (a, lstO e0 u0 e1 u1 0) :: rest) → a < x → (∀ q ∈ rest, q.1 < x) → Q (.ref x) { s with heap := h', toks := tk }) →
      wpAny (model Pr w) (ktrTop dp un gd cn cs L c ccd cl outer) (call (.ref 271) [.ref a]) Q E s
theorem drop23 {g h : Heap} {L : Addr} {p q r : Addr × Obj} {news : List (Addr × Obj)} (N : News g L h (p :: q :: r :: news)) : News g L h (p :: news) := fun x hx => by
  rcases List.mem_cons.mp hx with rfl | hx
  · exact N _ (.head _)
  · exact N _ (.tail _ (.tail _ (.tail _ hx)))
theorem value_c : ValueC w mean mg mb := by
  intro dp un gd cn cs c ccd cl outer A₀ base h₀ L m s a d0 d1 t0 t1 rest Q E B F X N T hk hdp hu hne h0 h1 hB hI; refine wpAny_call ?_; (k_dflt cell_enter)
  k_steps
  · rename _ < _ ∧ _ < _ ∧ _ < _ ∧ AllLt _ _ => hl
    refine hB _ _ _ _ _ _ _ _ _ ?_ ?_ (by assumption) (drop23 (by assumption)) hl.2.2.1 (lt_allLt hl.2.2.2) <;> assumption
  · rename _ < _ ∧ _ < _ ∧ _ < _ ∧ AllLt _ _ => hl
    rename (nm _ == Str.ofString "Bool") = false => hb
    have hi0 := nm_ne0 hb
    refine hI _ _ _ _ _ _ _ _ _ _ _ _ hi0 ?zi ?zl ?zh ?zp ?zq (by assumption) (drop23 (by assumption)) hl.2.2.1 (lt_allLt hl.2.2.2)
    case zi => omega
    case zl => exact (pick_ok (low_le _ (by omega)) (by assumption) (by assumption)).1
    case zh => exact (pick_ok (low_le _ (by omega)) (by assumption) (by assumption)).2
    all_goals assumption
end
section
variable (w : World) (mean : ExcName → Option Value) (mg mb : Str → Option Value) (news : List (Addr × Obj)) (tk t1 t2 t3 : Tok) (kind : Str) (n : Int) (a b : Addr) (o : Obj)
variable (i j : Nat)
theorem fits_big (n : Int) (tk t1 : Tok) : CtV w mean mg mb 12 96 132 [.str (Str.ofString "BigInt") tk, .int n t1] (fun _ => .bool (decide (lowF 9 ≤ n ∧ n ≤ highF 9))) := fits_c w mean mg mb tk t1 n 9 (by decide) (by decide)
end
local macro_rules | `(tactic| walk_at "call ref") => `(tactic| (k_here; (first
  | ((with_reducible show wpAny _ _ (call _ [Value.str (Str.ofString _) _, _]) _ _ _); k_dflt (refine' use_V (fits_big _ _ _ _ _ _ _) ?B ?F ?X ?N ?T ?hk ?dp ?un ?_; walk_at "use_args"; k_whole; intro t1' h' tk' F' N'; (try k_sweep)))
  | k_dflt (refine' use_V (fits_c _ _ _ _ _ _ _ _ ?hi0 ?hi) ?B ?F ?X ?N ?T ?hk ?dp ?un ?_; (case hi0 => first | assumption | decide | omega); (case hi => first | assumption | decide | omega); walk_at "use_args"; k_whole; intro t1' h' tk' F' N'; (try k_sweep)))))
section
variable (w : World) (mean : ExcName → Option Value) (mg mb : Str → Option Value) (news : List (Addr × Obj)) (tk t1 t2 t3 : Tok) (kind : Str) (n : Int) (a b : Addr) (o : Obj)
variable (i j : Nat)
theorem ne_allLt {d : Addr} {l : List (Addr × Obj)} (h : AllLt d l) : ∀ p ∈ l, p.1 ≠ d := fun p hp => Nat.ne_of_lt (lt_allLt h p hp)
theorem ne_allLt2 {d e : Addr} {l : List (Addr × Obj)} (h : AllLt d l) (hd : @LE.le Nat _ d e) : ∀ p ∈ l, p.1 ≠ e := fun p hp => Nat.ne_of_lt (Nat.lt_of_lt_of_le (lt_allLt h p hp) hd)
end
local macro_rules | `(tactic| k_all) => `(tactic| first | assumption | exact ne_allLt2 (by assumption) (by omega) | exact ne_allLt2 (And.right (by assumption)) (by omega) | exact ne_allLt2 (And.right (And.right (by assumption))) (by omega) | exact ne_allLt2 (And.right (And.right (And.right (by assumption)))) (by omega) | exact ne_allLt2 (And.right (And.right (And.right (And.right (by assumption))))) (by omega) | exact ne_allLt2 (And.right (And.right (And.right (And.right (And.right (by assumption)))))) (by omega) | exact ne_allLt2 (And.right (And.right (And.right (And.right (And.right (And.right (by assumption))))))) (by omega) | exact ne_allLt2 (And.right (And.right (And.right (And.right (And.right (And.right (And.right (by assumption)))))))) (by omega) | exact ne_allLt2 (And.right (And.right (And.right (And.right (And.right (And.right (And.right (And.right (by assumption))))))))) (by omega) | exact ne_allLt2 (And.right (And.right (And.right (And.right (And.right (And.right (And.right (And.right (And.right (by assumption)))))))))) (by omega))
section
variable (w : World) (mean : ExcName → Option Value) (mg mb : Str → Option Value) (news : List (Addr × Obj)) (tk t1 t2 t3 : Tok) (kind : Str) (n : Int) (a b : Addr) (o : Obj)
variable (i j : Nat)
section
variable {prog : Program} {w : World} {A : Around} {E : Value → Shared → Prop} {s : Shared} {x y : Str} {t u : Tok} {Q : Value → Shared → Prop}
theorem eq_no (h : (x == y) = false) (hq : Q (.bool false) s) : wpAny (model prog w) A (compareOp .Eq (.str x t) (.str y u)) Q E s := by
  refine eq_str ?_
  rw [h]
  exact hq
theorem ne_no (h : (x == y) = false) (hq : Q (.bool true) s) : wpAny (model prog w) A (compareOp .NotEq (.str x t) (.str y u)) Q E s := by
  refine ne_str ?_
  rw [show (x != y) = true by simp only [bne, h, Bool.not_false]]
  exact hq
theorem neBool {i : Nat} (h : 0 < i) (h' : i < 10) : (nm i == Str.ofString "Bool") = false := by
  have e := isS_row i 0 h' (by decide)
  have : (nm i == nm 0) = false := by rw [← e]; exact decide_eq_false (by omega)
  exact this
theorem neBig {i : Nat} (h : i < 9) : (nm i == Str.ofString "BigInt") = false := by
  have e := isS_row i 9 (by omega) (by decide)
  have : (nm i == nm 9) = false := by rw [← e]; exact decide_eq_false (by omega)
  exact this
end
end
local macro_rules | `(tactic| walk_at "compareOp Eq str str") => `(tactic| (k_here; with_reducible refine eq_no (by assumption) ?_))
section
variable (w : World) (mean : ExcName → Option Value) (mg mb : Str → Option Value) (news : List (Addr × Obj)) (tk t1 t2 t3 : Tok) (kind : Str) (n : Int) (a b : Addr) (o : Obj)
variable (i j : Nat)
end
local macro_rules | `(tactic| walk_at "compareOp NotEq str str") => `(tactic| (k_here; with_reducible refine ne_no (by assumption) ?_))
section
variable (w : World) (mean : ExcName → Option Value) (mg mb : Str → Option Value) (news : List (Addr × Obj)) (tk t1 t2 t3 : Tok) (kind : Str) (n : Int) (a b : Addr) (o : Obj)
variable (i j : Nat)
abbrev VObj (o : Obj) (i : Nat) (n : Int) : Prop := (0 < i ∧ i < 10 ∧ ∃ t1 t2 t3, o = tint (nm i) n t1 t2 t3) ∨ (i = 0 ∧ ∃ c t1, o = tbool c t1 ∧ n = if c then 1 else 0)
end
local macro_rules | `(tactic| walk_at "use_args") => `(tactic| ((case B => k_asm); (case F => k_asm); (case X => k_in); (case N => k_asm); (case T => k_asm); (case hk => first | exact rfl | (dsimp only [envX]; assumption)); (case dp => k_room); (case un => first | k_units | k_room)))
section
variable (w : World) (mean : ExcName → Option Value) (mg mb : Str → Option Value) (news : List (Addr × Obj)) (tk t1 t2 t3 : Tok) (kind : Str) (n : Int) (a b : Addr) (o : Obj)
variable (i j : Nat)
section
variable {w : World} {mean : ExcName → Option Value} {mg mb : Str → Option Value}
  {dp un : Nat} {gd : Option (List Code)} {cn : Str} {cs : Scope} {c a : Addr} {ccd : Value} {cl : List (Str × Addr)} {outer : List Env} {A₀ : Around} {base h₀ : Heap} {L : Addr} {m : Str → Option Value} {s : Shared} {news : List (Addr × Obj)} {Q E : Value → Shared → Prop}
  {o : Obj} {i : Nat} {n : Int}
theorem plain_c (V : VObj o i n) (hN : (a, o) ∈ news) (B : Below A₀ base outer h₀) (F : Fr h₀ L s.heap m) (X : (KF w.params).In h₀) (N : News h₀ L s.heap news) (T : Top Vw lo mean mg mb h₀) (hk : cs.kind = .function)
     (hdp : dp + 12 < recursionLimit) (hu : un + 96 < cLine) (hret : ∀ (t1 : Tok) (h' : Heap) (tk : Nat), Fr h₀ L h' m → News h₀ L h' news → Q (.int n t1) { s with heap := h', toks := tk }) : wpAny (model Pr w) (ktrTop dp un gd cn cs L c ccd cl outer) (call (.ref 202) [.ref a]) Q E s := by
  rcases V with ⟨h0, h1, t1, t2, t3, rfl⟩ | ⟨rfl, c, t1, rfl, rfl⟩
  all_goals refine wpAny_call ?_; (k_dflt cell_enter)
  all_goals k_steps
  all_goals exact hret _ _ _ (by assumption) (by assumption)
theorem kind_c (V : VObj o i n) (hN : (a, o) ∈ news) (B : Below A₀ base outer h₀) (F : Fr h₀ L s.heap m) (X : (KF w.params).In h₀) (N : News h₀ L s.heap news) (T : Top Vw lo mean mg mb h₀) (hk : cs.kind = .function)
     (hdp : dp + 12 < recursionLimit) (hu : un + 96 < cLine) (hret : ∀ (t1 : Tok) (h' : Heap) (tk : Nat), Fr h₀ L h' m → News h₀ L h' news → Q (.str (nm i) t1) { s with heap := h', toks := tk }) : wpAny (model Pr w) (ktrTop dp un gd cn cs L c ccd cl outer) (call (.ref 195) [.ref a]) Q E s := by
  rcases V with ⟨h0, h1, t1, t2, t3, rfl⟩ | ⟨rfl, c, t1, rfl, rfl⟩
  all_goals refine wpAny_call ?_; (k_dflt cell_enter)
  all_goals k_steps
  all_goals exact hret _ _ _ (by assumption) (by assumption)
end
end
local macro_rules | `(tactic| walk_at "use_N") => `(tactic| ((case hN => k_mem); (case V => assumption)))
section
variable (w : World) (mean : ExcName → Option Value) (mg mb : Str → Option Value) (news : List (Addr × Obj)) (tk t1 t2 t3 : Tok) (kind : Str) (n : Int) (a b : Addr) (o : Obj)
variable (i j : Nat)
end
local macro_rules | `(tactic| walk_at "call ref") => `(tactic| (k_here; k_dflt ((first | refine' plain_c ?V ?hN ?B ?F ?X ?N ?T ?hk ?dp ?un ?_ | refine' kind_c ?V ?hN ?B ?F ?X ?N ?T ?hk ?dp ?un ?_); walk_at "use_args"; walk_at "use_N"; k_whole; intro t1' h' tk' F' N'; (try dsimp only at N'); (try k_sweep))))
section
variable (w : World) (mean : ExcName → Option Value) (mg mb : Str → Option Value) (news : List (Addr × Obj)) (tk t1 t2 t3 : Tok) (kind : Str) (n : Int) (a b : Addr) (o : Obj)
variable (i j : Nat)
section
variable {w : World} {mean : ExcName → Option Value} {mg mb : Str → Option Value}
  {dp un : Nat} {gd : Option (List Code)} {cn : Str} {cs : Scope} {c a : Addr} {ccd : Value} {cl : List (Str × Addr)} {outer : List Env} {A₀ : Around} {base h₀ : Heap} {L : Addr} {m : Str → Option Value} {s : Shared} {news : List (Addr × Obj)} {Q E : Value → Shared → Prop}
  {o : Obj} {i j : Nat} {n : Int} {tk : Tok}
theorem Fly.sub {base G : Heap} {l : List Env} {e dx : Addr} {news news' : List (Addr × Obj)} {h : Heap} (f : Fly base G l e dx news h) (hs : ∀ q ∈ news', q ∈ news) : Fly base G l e dx news' h := by
  obtain ⟨⟨B, a0, h1, h2, h3, h4⟩, d⟩ := f
  exact ⟨⟨B, a0, h1, h2, fun q hq => h3 q (hs q hq), h4⟩, d⟩
abbrev tupV (l : List Value) : Obj := { cls := .type "tuple", data := .seq l.toArray 0 }
abbrev partsE (dx x1 x2 : Addr) (es : List DictEntry) (k : Nat) (u1 u2 u3 : Tok) (v1 v2 : Value) (news : List (Addr × Obj)) : List (Addr × Obj) :=
  (dx, dictOf es k) :: (x1, tupV [.str (Str.ofString "struct") u1, .ref x2, v1]) :: (x2, tupV [.str (Str.ofString "name") u2, .str (Str.ofString "InexactError") u3, v2]) :: news
def FlyTo (base h₀ : Heap) (L : Addr) (m : Str → Option Value) (l : List Env) (news : List (Addr × Obj)) (E : Value → Shared → Prop) (s : Shared) : Prop :=
  ∀ (e dx x1 x2 : Addr) (es : List DictEntry) (k : Nat) (u1 u2 u3 : Tok) (v1 v2 : Value) (g₂ h' : Heap) (tk : Nat), Fr h₀ L g₂ m → Fly base g₂ l e dx (partsE dx x1 x2 es k u1 u2 u3 v1 v2 news) h' → g₂.UpToSlots h' →
    getL (Str.ofString "value") es = some (some (.ref x1)) → E (.ref e) { s with heap := h', toks := tk }
theorem sub_parts {dx x1 x2 t d1 : Addr} {o1 o2 o3 o4 o5 : Obj} {news l : List (Addr × Obj)} (h : ∀ q ∈ news, q ∈ l) : ∀ q ∈ (dx, o1) :: (x1, o2) :: (x2, o3) :: news, q ∈ (dx, o1) :: (t, o4) :: (d1, o5) :: (x1, o2) :: (x2, o3) :: l := fun q hq => by
  rcases List.mem_cons.mp hq with rfl | hq
  · exact .head _
  rcases List.mem_cons.mp hq with rfl | hq
  · exact .tail _ (.tail _ (.tail _ (.head _)))
  rcases List.mem_cons.mp hq with rfl | hq
  · exact .tail _ (.tail _ (.tail _ (.tail _ (.head _))))
  · exact .tail _ (.tail _ (.tail _ (.tail _ (.tail _ (h q hq)))))
theorem sub_6 {p1 p2 p3 p4 p5 p6 : Addr × Obj} {news : List (Addr × Obj)} : ∀ q ∈ news, q ∈ p1 :: p2 :: p3 :: p4 :: p5 :: p6 :: news := fun q hq => .tail _ (.tail _ (.tail _ (.tail _ (.tail _ (.tail _ hq)))))
theorem sub_7 {p1 p2 p3 p4 p5 p6 p7 : Addr × Obj} {news : List (Addr × Obj)} : ∀ q ∈ news, q ∈ p1 :: p2 :: p3 :: p4 :: p5 :: p6 :: p7 :: news := fun q hq => .tail _ (.tail _ (.tail _ (.tail _ (.tail _ (.tail _ (.tail _ hq))))))
theorem drop2 {g h : Heap} {L : Addr} {p q : Addr × Obj} {news : List (Addr × Obj)} (N : News g L h (p :: q :: news)) : News g L h (p :: news) := fun x hx => by
  rcases List.mem_cons.mp hx with rfl | hx
  · exact N _ (.head _)
  · exact N _ (.tail _ (.tail _ hx))
theorem pe_news {g h : Heap} {K e t dx d0 x1 x2 : Addr} {es : List DictEntry} {k : Nat} {u1 u2 u3 : Tok} {w1 w2 : Value} {o4 o5 : Obj} {p r : Addr × Obj} {news : List (Addr × Obj)}
    (N : News g K h ((e, excD t dx) :: (dx, dictOf es k) :: (t, o4) :: (d0, o5) :: (x1, tupV [.str (Str.ofString "struct") u1, .ref x2, w1]) :: (x2, tupV [.str (Str.ofString "name") u2, .str (Str.ofString "InexactError") u3, w2]) :: p :: r :: news)) :
    News g K h ((e, excD t dx) :: partsE dx x1 x2 es k u1 u2 u3 w1 w2 news) := fun q hq => by
  rcases List.mem_cons.mp hq with rfl | hq
  · exact N _ (.head _)
  · exact N _ (.tail _ (sub_parts (fun q hq => .tail _ (.tail _ hq)) q hq))
theorem pe_ne {e dx x1 x2 d0 : Addr} {es : List DictEntry} {k : Nat} {u1 u2 u3 : Tok} {w1 w2 : Value} {news : List (Addr × Obj)} (h1 : e < dx) (h0 : d0 < e) (h2 : x1 < d0) (h3 : x2 < d0) (h4 : AllLt d0 news) :
    ∀ q ∈ partsE dx x1 x2 es k u1 u2 u3 w1 w2 news, q.1 ≠ e := fun q hq => by
  rcases List.mem_cons.mp hq with rfl | hq
  · exact Nat.ne_of_gt h1
  rcases List.mem_cons.mp hq with rfl | hq
  · exact Nat.ne_of_lt (Nat.lt_trans h2 h0)
  rcases List.mem_cons.mp hq with rfl | hq
  · exact Nat.ne_of_lt (Nat.lt_trans h3 h0)
  · exact Nat.ne_of_lt (Nat.lt_trans (lt_allLt h4 q hq) h0)
theorem thrown_c {d1 : Addr} {v1 v2 v3 : Value} {t0 : Tok} (hl : AllLt d1 news)
    (B : Below A₀ base outer h₀) (F : Fr h₀ L s.heap m) (X : (KF w.params).In h₀) (N : News h₀ L s.heap ((d1, tupV [v1, v2, v3]) :: news)) (T : Top Vw lo mean mg mb h₀) (hk : cs.kind = .function)
     (hdp : dp + 12 < recursionLimit) (hu : un + 120 < cLine)
     (hret : ∀ e t dx x1 x2 es k u1 u2 u3 w1 w2 h' tk', Fr h₀ L h' m → News h₀ L h' ((e, excD t dx) :: partsE dx x1 x2 es k u1 u2 u3 w1 w2 news) → (∀ q ∈ partsE dx x1 x2 es k u1 u2 u3 w1 w2 news, q.1 ≠ e) →
       getL (Str.ofString "value") es = some (some (.ref x1)) → Q (.ref e) { s with heap := h', toks := tk' }) :
    wpAny (model Pr w) (ktrTop dp un gd cn cs L c ccd cl outer) (call (.ref 82) [.str (Str.ofString "InexactError") t0, .ref d1]) Q E s := by
  refine wpAny_call ?_; (k_dflt cell_enter)
  k_steps
  rename _ < _ ∧ _ < _ ∧ _ < _ ∧ _ < _ ∧ AllLt _ news => q5
  obtain ⟨g1, g2, g3, g4, g5⟩ := q5
  rename News _ _ _ (_ :: _ :: _ :: _ :: _ :: _ :: _ :: _ :: _) => N9
  exact hret _ _ _ _ _ _ _ _ _ _ _ _ _ _ (by assumption) (pe_news N9) (pe_ne (by assumption) (by assumption) g1 g2 g5) (by kernel_rfl)
theorem pe_sub {dx x1 x2 : Addr} {es : List DictEntry} {k : Nat} {u1 u2 u3 : Tok} {w1 w2 : Value} {news l : List (Addr × Obj)} (h : ∀ q ∈ news, q ∈ l) : ∀ q ∈ partsE dx x1 x2 es k u1 u2 u3 w1 w2 news, q ∈ partsE dx x1 x2 es k u1 u2 u3 w1 w2 l := fun q hq => by
  rcases List.mem_cons.mp hq with rfl | hq
  · exact .head _
  rcases List.mem_cons.mp hq with rfl | hq
  · exact .tail _ (.head _)
  rcases List.mem_cons.mp hq with rfl | hq
  · exact .tail _ (.tail _ (.head _))
  · exact .tail _ (.tail _ (.tail _ (h q hq)))
end
end
local macro_rules | `(tactic| walk_at "call ref") => `(tactic| (k_here; (with_reducible show wpAny _ _ (call (Value.ref 82) [Value.str _ _, Value.ref _]) _ _ _); k_dflt (refine' thrown_c ?hl ?B ?F ?X ?N ?T ?hk ?dp ?un ?_; walk_at "use_args"; (case hl => first | assumption | trivial); k_whole; intro e' t' dx' x1' x2' es' k' u1' u2' u3' w1' w2' h' tk' F' N' H' G'; (try k_sweep))))
section
variable (w : World) (mean : ExcName → Option Value) (mg mb : Str → Option Value) (news : List (Addr × Obj)) (tk t1 t2 t3 : Tok) (kind : Str) (n : Int) (a b : Addr) (o : Obj)
variable (i j : Nat)
section
variable {w : World} {mean : ExcName → Option Value} {mg mb : Str → Option Value}
  {dp un : Nat} {gd : Option (List Code)} {cn : Str} {cs : Scope} {c a : Addr} {ccd : Value} {cl : List (Str × Addr)} {outer : List Env} {A₀ : Around} {base h₀ : Heap} {L : Addr} {m : Str → Option Value} {s : Shared} {news : List (Addr × Obj)} {Q E : Value → Shared → Prop}
  {o : Obj} {i j : Nat} {n : Int} {tk : Tok}
theorem conv_i (hi : 0 < i) (hi' : i < 9) (V : VObj o j n) (hN : (a, o) ∈ news)
    (B : Below A₀ base outer h₀) (F : Fr h₀ L s.heap m) (X : (KF w.params).In h₀) (N : News h₀ L s.heap news) (T : Top Vw lo mean mg mb h₀) (hk : cs.kind = .function)
     (hdp : dp + 24 < recursionLimit) (hu : un + 200 < cLine)
     (hret : (lowF i ≤ n ∧ n ≤ highF i) → ∀ x h' tk t1 t2 t3, Fr h₀ L h' m → News h₀ L h' ((x, tint (nm i) n t1 t2 t3) :: news) → (∀ q ∈ news, q.1 < x) → Q (.ref x) { s with heap := h', toks := tk })
     (hexc : ¬(lowF i ≤ n ∧ n ≤ highF i) → FlyTo base h₀ L m (envX cn cs L c ccd cl :: outer) news E s) : wpAny (model Pr w) (ktrTop dp un gd cn cs L c ccd cl outer) (call (.ref 216) [.str (nm i) tk, .ref a]) Q E s := by
  have nb := neBool hi (by omega : i < 10)
  have ng := neBig hi'
  refine wpAny_call ?_; (k_dflt cell_enter)
  k_steps
  · exact hret (by assumption) _ _ _ _ _ _ (by assumption) (by assumption) (by first | assumption | exact lt_allLt (by assumption))
  · refine hexc (by assumption) _ _ _ _ _ _ _ _ _ _ _ _ _ _ (by assumption) (Fly.sub (by assumption) (pe_sub (fun q hq => by repeat (first | exact hq | refine List.Mem.tail _ ?_)))) (by assumption) (by assumption)
theorem fits_yes {tk t1 : Tok} (hb : lowF 9 ≤ n ∧ n ≤ highF 9) : CtV w mean mg mb 12 96 132 [.str (Str.ofString "BigInt") tk, .int n t1] (fun _ => .bool true) := by
  have := fits_big w mean mg mb n tk t1
  rwa [decide_eq_true hb] at this
end
end
local macro_rules | `(tactic| walk_at "call ref") => `(tactic| (k_here; k_dflt (refine' use_V (fits_yes ?hi0) ?B ?F ?X ?N ?T ?hk ?dp ?un ?_; (case hi0 => assumption); walk_at "use_args"; k_whole; intro t1' h' tk' F' N'; (try k_sweep))))
section
variable (w : World) (mean : ExcName → Option Value) (mg mb : Str → Option Value) (news : List (Addr × Obj)) (tk t1 t2 t3 : Tok) (kind : Str) (n : Int) (a b : Addr) (o : Obj)
variable (i j : Nat)
section
variable {w : World} {mean : ExcName → Option Value} {mg mb : Str → Option Value}
  {dp un : Nat} {gd : Option (List Code)} {cn : Str} {cs : Scope} {c a : Addr} {ccd : Value} {cl : List (Str × Addr)} {outer : List Env} {A₀ : Around} {base h₀ : Heap} {L : Addr} {m : Str → Option Value} {s : Shared} {news : List (Addr × Obj)} {Q E : Value → Shared → Prop}
  {o : Obj} {i j : Nat} {n : Int} {tk : Tok}
theorem conv_9 (hb : lowF 9 ≤ n ∧ n ≤ highF 9) (V : VObj o j n) (hN : (a, o) ∈ news)
    (B : Below A₀ base outer h₀) (F : Fr h₀ L s.heap m) (X : (KF w.params).In h₀) (N : News h₀ L s.heap news) (T : Top Vw lo mean mg mb h₀) (hk : cs.kind = .function)
     (hdp : dp + 24 < recursionLimit) (hu : un + 200 < cLine)
     (hret : ∀ x h' tk t1 t2 t3, Fr h₀ L h' m → News h₀ L h' ((x, tint (nm 9) n t1 t2 t3) :: news) → (∀ q ∈ news, q.1 < x) → Q (.ref x) { s with heap := h', toks := tk }) : wpAny (model Pr w) (ktrTop dp un gd cn cs L c ccd cl outer) (call (.ref 216) [.str (Str.ofString "BigInt") tk, .ref a]) Q E s := by
  refine wpAny_call ?_; (k_dflt cell_enter)
  k_steps
  exact hret _ _ _ _ _ _ (by assumption) (by assumption) (by first | assumption | exact lt_allLt (by assumption))
theorem in01 (h : ([0, 1].any fun x => x == n) = true) : n = 0 ∨ n = 1 := by
  simp only [List.any_cons, List.any_nil, Bool.or_false, Bool.or_eq_true, beq_iff_eq] at h
  omega
theorem nin01 (h : ¬([0, 1].any fun x => x == n) = true) : ¬(n = 0 ∨ n = 1) := by
  simp only [List.any_cons, List.any_nil, Bool.or_false, Bool.or_eq_true, beq_iff_eq] at h
  omega
theorem nin01' (h : ([0, 1].any fun x => x == n) = false) : ¬(n = 0 ∨ n = 1) := nin01 (by rw [h]; decide)
theorem ne01 (h : n = 0 ∨ n = 1) : (n != 0) = decide (n = 1) := by rcases h with rfl | rfl <;> rfl
theorem conv_0 (V : VObj o j n) (hN : (a, o) ∈ news)
    (B : Below A₀ base outer h₀) (F : Fr h₀ L s.heap m) (X : (KF w.params).In h₀) (N : News h₀ L s.heap news) (T : Top Vw lo mean mg mb h₀) (hk : cs.kind = .function)
     (hdp : dp + 24 < recursionLimit) (hu : un + 200 < cLine)
     (hret : (n = 0 ∨ n = 1) → ∀ x h' tk t1, Fr h₀ L h' m → News h₀ L h' ((x, tbool (decide (n = 1)) t1) :: news) → (∀ q ∈ news, q.1 < x) → Q (.ref x) { s with heap := h', toks := tk })
     (hexc : ¬(n = 0 ∨ n = 1) → FlyTo base h₀ L m (envX cn cs L c ccd cl :: outer) news E s) : wpAny (model Pr w) (ktrTop dp un gd cn cs L c ccd cl outer) (call (.ref 216) [.str (Str.ofString "Bool") tk, .ref a]) Q E s := by
  refine wpAny_call ?_; (k_dflt cell_enter)
  k_steps
  · have z := in01 (by assumption)
    rw [ne01 z] at *
    exact hret z _ _ _ _ (by assumption) (drop2 (by assumption)) (by rename _ < _ ∧ AllLt _ _ => hl; exact lt_allLt hl.2)
  · refine hexc (by first | exact nin01 (by assumption) | exact nin01' (by assumption)) _ _ _ _ _ _ _ _ _ _ _ _ _ _ (by assumption) (Fly.sub (by assumption) (pe_sub (fun q hq => by repeat (first | exact hq | refine List.Mem.tail _ ?_)))) (by assumption) (by assumption)
theorem low_F : ∀ i, 0 < i → i < 9 → lowF i = lowZ i ∧ highF i = highZ i := by
  have h : ((List.range 9).all fun i => decide (0 < i → lowF i = lowZ i ∧ highF i = highZ i)) = true := by decide +kernel
  intro i h0 hi
  exact of_decide_eq_true (List.all_eq_true.mp h i (List.mem_range.mpr hi)) h0
theorem low_F9 : lowF 9 ≤ lowZ 9 ∧ highZ 9 ≤ highF 9 := by decide +kernel
theorem low_9 : ∀ i, i < 10 → lowZ 9 ≤ lowZ i ∧ highZ i ≤ highZ 9 := by
  have h : ((List.range 10).all fun i => decide (lowZ 9 ≤ lowZ i ∧ highZ i ≤ highZ 9)) = true := by decide +kernel
  intro i hi
  exact of_decide_eq_true (List.all_eq_true.mp h i (List.mem_range.mpr hi))
def asO (i : Nat) (n : Int) (t1 t2 t3 : Tok) : Obj := if i = 0 then tbool (decide (n = 1)) t1 else tint (nm i) n t1 t2 t3
/-- n lies within the law's own room; a wall before the great numbers -/
structure BigOK (n : Int) : Prop where
  out : lowZ 9 ≤ n ∧ n ≤ highZ 9
/-- n has room in kind i -/
structure Room (i : Nat) (n : Int) : Prop where
  out : lowZ i ≤ n ∧ n ≤ highZ i
theorem conv_c (hi : i < 10) (hb' : BigOK n) (V : VObj o j n) (hN : (a, o) ∈ news)
    (B : Below A₀ base outer h₀) (F : Fr h₀ L s.heap m) (X : (KF w.params).In h₀) (N : News h₀ L s.heap news) (T : Top Vw lo mean mg mb h₀) (hk : cs.kind = .function)
     (hdp : dp + 24 < recursionLimit) (hu : un + 200 < cLine)
     (hret : Room i n → ∀ x h' tk t1 t2 t3, Fr h₀ L h' m → News h₀ L h' ((x, asO i n t1 t2 t3) :: news) → (∀ q ∈ news, q.1 < x) → Q (.ref x) { s with heap := h', toks := tk })
     (hexc : ¬ Room i n → FlyTo base h₀ L m (envX cn cs L c ccd cl :: outer) news E s) : wpAny (model Pr w) (ktrTop dp un gd cn cs L c ccd cl outer) (call (.ref 216) [.str (nm i) tk, .ref a]) Q E s := by
  have c0 : i = 0 ∨ (0 < i ∧ i < 9) ∨ i = 9 := by omega
  have hb := hb'.out
  rcases c0 with rfl | ⟨h0, h9⟩ | rfl
  · have e : (lowZ 0 ≤ n ∧ n ≤ highZ 0) ↔ (n = 0 ∨ n = 1) := by show (0 ≤ n ∧ n ≤ 1) ↔ _; omega
    refine conv_0 V hN B F X N T hk hdp hu (fun z x h' tk t1 F' N' l => ?_) fun z => hexc fun z' => z (e.mp z'.out)
    exact hret ⟨e.mpr z⟩ x h' tk t1 0 0 F' N' l
  · have e : (lowZ i ≤ n ∧ n ≤ highZ i) ↔ (lowF i ≤ n ∧ n ≤ highF i) := by rw [(low_F i h0 h9).1, (low_F i h0 h9).2]
    refine conv_i h0 h9 V hN B F X N T hk hdp hu (fun z x h' tk t1 t2 t3 F' N' l => ?_) fun z => hexc fun z' => z (e.mp z'.out)
    refine hret ⟨e.mpr z⟩ x h' tk t1 t2 t3 F' ?_ l
    rwa [asO, if_neg (by omega)]
  · have hb' : lowF 9 ≤ n ∧ n ≤ highF 9 := ⟨Int.le_trans low_F9.1 hb.1, Int.le_trans hb.2 low_F9.2⟩
    exact conv_9 hb' V hN B F X N T hk hdp hu fun x h' tk t1 t2 t3 F' N' l => hret ⟨hb⟩ x h' tk t1 t2 t3 F' N' l
end
end
section
variable (w : World) (mean : ExcName → Option Value) (mg mb : Str → Option Value) (news : List (Addr × Obj)) (tk t1 t2 t3 : Tok) (kind : Str) (n : Int) (a b : Addr) (o : Obj)
variable (i j : Nat)
section
variable {w : World} {mean : ExcName → Option Value} {mg mb : Str → Option Value}
  {dp un : Nat} {gd : Option (List Code)} {cn : Str} {cs : Scope} {c a : Addr} {ccd : Value} {cl : List (Str × Addr)} {outer : List Env} {A₀ : Around} {base h₀ : Heap} {L : Addr} {m : Str → Option Value} {s : Shared} {news : List (Addr × Obj)} {Q E : Value → Shared → Prop}
  {o : Obj} {i j : Nat} {n : Int} {tk : Tok}
end
end
local macro_rules | `(tactic| walk_at "call ref") => `(tactic| (k_here; k_dflt (refine' use_V (wrapped_c _ _ _ _ _ _ _ _ ?hi0 ?hi) ?B ?F ?X ?N ?T ?hk ?dp ?un ?_; (case hi0 => first | assumption | decide | omega); (case hi => first | assumption | decide | omega); walk_at "use_args"; k_whole; intro t1' h' tk' F' N'; (try k_sweep))))
section
variable (w : World) (mean : ExcName → Option Value) (mg mb : Str → Option Value) (news : List (Addr × Obj)) (tk t1 t2 t3 : Tok) (kind : Str) (n : Int) (a b : Addr) (o : Obj)
variable (i j : Nat)
section
variable {w : World} {mean : ExcName → Option Value} {mg mb : Str → Option Value}
  {dp un : Nat} {gd : Option (List Code)} {cn : Str} {cs : Scope} {c a : Addr} {ccd : Value} {cl : List (Str × Addr)} {outer : List Env} {A₀ : Around} {base h₀ : Heap} {L : Addr} {m : Str → Option Value} {s : Shared} {news : List (Addr × Obj)} {Q E : Value → Shared → Prop}
  {o : Obj} {i j : Nat} {n : Int} {tk : Tok}
theorem ledto_i (hi : 0 < i) (hi' : i < 9) (V : VObj o j n) (hN : (a, o) ∈ news)
    (B : Below A₀ base outer h₀) (F : Fr h₀ L s.heap m) (X : (KF w.params).In h₀) (N : News h₀ L s.heap news) (T : Top Vw lo mean mg mb h₀) (hk : cs.kind = .function)
     (hdp : dp + 24 < recursionLimit) (hu : un + 200 < cLine)
     (hret : ∀ x h' tk t1 t2 t3, Fr h₀ L h' m → News h₀ L h' ((x, tint (nm i) (wrapZ i n) t1 t2 t3) :: news) → (∀ q ∈ news, q.1 < x) → Q (.ref x) { s with heap := h', toks := tk }) : wpAny (model Pr w) (ktrTop dp un gd cn cs L c ccd cl outer) (call (.ref 223) [.str (nm i) tk, .ref a]) Q E s := by
  have nb := neBool hi (by omega : i < 10)
  refine wpAny_call ?_; (k_dflt cell_enter)
  k_steps
  exact hret _ _ _ _ _ _ (by assumption) (by assumption) (by first | assumption | exact lt_allLt (by assumption))
theorem ledto_9 (hb : lowF 9 ≤ n ∧ n ≤ highF 9) (V : VObj o j n) (hN : (a, o) ∈ news)
    (B : Below A₀ base outer h₀) (F : Fr h₀ L s.heap m) (X : (KF w.params).In h₀) (N : News h₀ L s.heap news) (T : Top Vw lo mean mg mb h₀) (hk : cs.kind = .function)
     (hdp : dp + 24 < recursionLimit) (hu : un + 200 < cLine)
     (hret : ∀ x h' tk t1 t2 t3, Fr h₀ L h' m → News h₀ L h' ((x, tint (nm 9) n t1 t2 t3) :: news) → (∀ q ∈ news, q.1 < x) → Q (.ref x) { s with heap := h', toks := tk }) : wpAny (model Pr w) (ktrTop dp un gd cn cs L c ccd cl outer) (call (.ref 223) [.str (Str.ofString "BigInt") tk, .ref a]) Q E s := by
  refine wpAny_call ?_; (k_dflt cell_enter)
  k_steps
  exact hret _ _ _ _ _ _ (by assumption) (by assumption) (by first | assumption | exact lt_allLt (by assumption))
end
end
local macro_rules | `(tactic| walk_at "call ref") => `(tactic| (k_here; k_dflt (refine' use_V (promoted_c _ _ _ _ _ _ _ _ ?hi0 ?hi) ?B ?F ?X ?N ?T ?hk ?dp ?un ?_; (case hi0 => first | assumption | decide | omega); (case hi => first | assumption | decide | omega); walk_at "use_args"; k_whole; intro t1' h' tk' F' N'; (try k_sweep))))
section
variable (w : World) (mean : ExcName → Option Value) (mg mb : Str → Option Value) (news : List (Addr × Obj)) (tk t1 t2 t3 : Tok) (kind : Str) (n : Int) (a b : Addr) (o : Obj)
variable (i j : Nat)
section
variable {w : World} {mean : ExcName → Option Value} {mg mb : Str → Option Value}
  {dp un : Nat} {gd : Option (List Code)} {cn : Str} {cs : Scope} {c a : Addr} {ccd : Value} {cl : List (Str × Addr)} {outer : List Env} {A₀ : Around} {base h₀ : Heap} {L : Addr} {m : Str → Option Value} {s : Shared} {news : List (Addr × Obj)} {Q E : Value → Shared → Prop}
  {o : Obj} {i j : Nat} {n : Int} {tk : Tok}
theorem VObj.lt {o : Obj} {i : Nat} {n : Int} (V : VObj o i n) : i < 10 := by
  rcases V with ⟨_, h, _⟩ | ⟨h, _⟩ <;> omega
theorem order_c {o1 o2 : Obj} {i1 i2 : Nat} {n1 n2 : Int} {a1 a2 : Addr} (V1 : VObj o1 i1 n1) (hN1 : (a1, o1) ∈ news) (V2 : VObj o2 i2 n2) (hN2 : (a2, o2) ∈ news)
    (B : Below A₀ base outer h₀) (F : Fr h₀ L s.heap m) (X : (KF w.params).In h₀) (N : News h₀ L s.heap news) (T : Top Vw lo mean mg mb h₀) (hk : cs.kind = .function)
     (hdp : dp + 24 < recursionLimit) (hu : un + 200 < cLine)
     (hret : ∀ t1 h' tk, Fr h₀ L h' m → News h₀ L h' news → Q (.int ((if n1 > n2 then 1 else 0) - (if n1 < n2 then 1 else 0)) t1) { s with heap := h', toks := tk }) : wpAny (model Pr w) (ktrTop dp un gd cn cs L c ccd cl outer) (call (.ref 244) [.ref a1, .ref a2]) Q E s := by
  refine wpAny_call ?_; (k_dflt cell_enter)
  k_steps
  refine cb_retI hret ?_ (by assumption) (drop1 (by assumption))
  simp only [decide_eq_true_eq, gt_iff_lt]
end
end
local macro_rules | `(tactic| walk_at "call ref") => `(tactic| (k_here; focus k_dflt (refine' conv_c ?hi ?hb ?V ?hN ?B ?F ?X ?N ?T ?hk ?dp ?un ?_ ?_; walk_at "use_args"; walk_at "use_N"; (case hb => assumption); (case hi => first | assumption | omega); rotate_left; k_whole; intro no' e' dx' x1' x2' es' k' u1' u2' u3' v1' v2' g' h' tk' F' R' U' G'; (try dsimp only at R' U' ⊢); rotate_left; k_whole; intro ok' x' h' tk' t1' t2' t3' F' N' l1; (try dsimp only at N'); (try k_lt l1); (try k_sweep))))
section
variable (w : World) (mean : ExcName → Option Value) (mg mb : Str → Option Value) (news : List (Addr × Obj)) (tk t1 t2 t3 : Tok) (kind : Str) (n : Int) (a b : Addr) (o : Obj)
variable (i j : Nat)
section
variable {w : World} {mean : ExcName → Option Value} {mg mb : Str → Option Value}
  {dp un : Nat} {gd : Option (List Code)} {cn : Str} {cs : Scope} {c a : Addr} {ccd : Value} {cl : List (Str × Addr)} {outer : List Env} {A₀ : Around} {base h₀ : Heap} {L : Addr} {m : Str → Option Value} {s : Shared} {news : List (Addr × Obj)} {Q E : Value → Shared → Prop}
  {o : Obj} {i j : Nat} {n : Int} {tk : Tok}
end
end
local macro_rules | `(tactic| k_mem) => `(tactic| first | assumption | exact .tail _ (by assumption) | exact .tail _ (.tail _ (by assumption)) | exact .tail _ (.tail _ (.tail _ (by assumption))) | exact .tail _ (.tail _ (.tail _ (.tail _ (by assumption)))) | exact .tail _ (.tail _ (.tail _ (.tail _ (.tail _ (by assumption))))) | exact .tail _ (.tail _ (.tail _ (.tail _ (.tail _ (.tail _ (by assumption)))))) | exact .tail _ (.tail _ (.tail _ (.tail _ (.tail _ (.tail _ (.tail _ (by assumption))))))) | exact .tail _ (.tail _ (.tail _ (.tail _ (.tail _ (.tail _ (.tail _ (.tail _ (by assumption)))))))) | exact .tail _ (.tail _ (.tail _ (.tail _ (.tail _ (.tail _ (.tail _ (.tail _ (.tail _ (by assumption))))))))) | exact .tail _ (.tail _ (.tail _ (.tail _ (.tail _ (.tail _ (.tail _ (.tail _ (.tail _ (.tail _ (by assumption)))))))))) | exact .tail _ (.tail _ (.tail _ (.tail _ (.tail _ (.tail _ (.tail _ (.tail _ (.tail _ (.tail _ (.tail _ (by assumption))))))))))) | exact .tail _ (.tail _ (.tail _ (.tail _ (.tail _ (.tail _ (.tail _ (.tail _ (.tail _ (.tail _ (.tail _ (.tail _ (by assumption)))))))))))))
section
variable (w : World) (mean : ExcName → Option Value) (mg mb : Str → Option Value) (news : List (Addr × Obj)) (tk t1 t2 t3 : Tok) (kind : Str) (n : Int) (a b : Addr) (o : Obj)
variable (i j : Nat)
section
variable {w : World} {mean : ExcName → Option Value} {mg mb : Str → Option Value}
  {dp un : Nat} {gd : Option (List Code)} {cn : Str} {cs : Scope} {c a : Addr} {ccd : Value} {cl : List (Str × Addr)} {outer : List Env} {A₀ : Around} {base h₀ : Heap} {L : Addr} {m : Str → Option Value} {s : Shared} {news : List (Addr × Obj)} {Q E : Value → Shared → Prop}
  {o : Obj} {i j : Nat} {n : Int} {tk : Tok}
theorem sub_news {dx x1 x2 y : Addr} {es : List DictEntry} {k : Nat} {u1 u2 u3 : Tok} {v1 v2 : Value} {o : Obj} {news : List (Addr × Obj)} : ∀ q ∈ partsE dx x1 x2 es k u1 u2 u3 v1 v2 news, q ∈ partsE dx x1 x2 es k u1 u2 u3 v1 v2 ((y, o) :: news) := fun q hq => by
  rcases List.mem_cons.mp hq with rfl | hq
  · exact .head _
  rcases List.mem_cons.mp hq with rfl | hq
  · exact .tail _ (.head _)
  rcases List.mem_cons.mp hq with rfl | hq
  · exact .tail _ (.tail _ (.head _))
  · exact .tail _ (.tail _ (.tail _ (.tail _ hq)))
theorem both_c {o1 o2 : Obj} {i1 i2 : Nat} {n1 n2 : Int} {a1 a2 : Addr} (V1 : VObj o1 i1 n1) (hN1 : (a1, o1) ∈ news) (V2 : VObj o2 i2 n2) (hN2 : (a2, o2) ∈ news) (hb1 : BigOK n1) (hb2 : BigOK n2)
    (B : Below A₀ base outer h₀) (F : Fr h₀ L s.heap m) (X : (KF w.params).In h₀) (N : News h₀ L s.heap news) (T : Top Vw lo mean mg mb h₀) (hk : cs.kind = .function)
     (hdp : dp + 36 < recursionLimit) (hu : un + 300 < cLine)
     (hret : Room (max i1 i2) n1 → Room (max i1 i2) n2 → ∀ z y x h' tk t1 t2 t3 u1 u2 u3, Fr h₀ L h' m → News h₀ L h' ((z, tupV [.ref x, .ref y]) :: (y, asO (max i1 i2) n2 u1 u2 u3) :: (x, asO (max i1 i2) n1 t1 t2 t3) :: news) → Q (.ref z) { s with heap := h', toks := tk })
     (hexc : ¬(Room (max i1 i2) n1 ∧ Room (max i1 i2) n2) → FlyTo base h₀ L m (envX cn cs L c ccd cl :: outer) news E s)
     : wpAny (model Pr w) (ktrTop dp un gd cn cs L c ccd cl outer) (call (.ref 230) [.ref a1, .ref a2]) Q E s := by
  have b1 := V1.lt
  have b2 := V2.lt
  have b3 : max i1 i2 < 10 := by omega
  refine wpAny_call ?_; (k_dflt cell_enter)
  k_steps
  · exact hret (by assumption) (by assumption) _ _ _ _ _ _ _ _ _ _ _ (by assumption) (by assumption)
  · rename ¬Room _ n2 => no
    refine hexc (fun z => no z.2) _ _ _ _ _ _ _ _ _ _ _ _ _ _ (by assumption) (Fly.sub (by assumption) sub_news) (by assumption) (by assumption)
  · rename ¬Room _ n1 => no
    refine hexc (fun z => no z.1) _ _ _ _ _ _ _ _ _ _ _ _ _ _ (by assumption) (by assumption) (by assumption) (by assumption)
theorem ledto_c (hi : 0 < i) (hi' : i < 10) (hb : BigOK n) (V : VObj o j n) (hN : (a, o) ∈ news)
    (B : Below A₀ base outer h₀) (F : Fr h₀ L s.heap m) (X : (KF w.params).In h₀) (N : News h₀ L s.heap news) (T : Top Vw lo mean mg mb h₀) (hk : cs.kind = .function)
     (hdp : dp + 24 < recursionLimit) (hu : un + 200 < cLine)
     (hret : ∀ x h' tk t1 t2 t3, Fr h₀ L h' m → News h₀ L h' ((x, tint (nm i) (wrapZ i n) t1 t2 t3) :: news) → (∀ q ∈ news, q.1 < x) → Q (.ref x) { s with heap := h', toks := tk }) : wpAny (model Pr w) (ktrTop dp un gd cn cs L c ccd cl outer) (call (.ref 223) [.str (nm i) tk, .ref a]) Q E s := by
  by_cases h9 : i < 9
  · exact ledto_i hi h9 V hN B F X N T hk hdp hu hret
  · obtain rfl : i = 9 := by omega
    have hb' : lowF 9 ≤ n ∧ n ≤ highF 9 := ⟨Int.le_trans low_F9.1 hb.out.1, Int.le_trans hb.out.2 low_F9.2⟩
    exact ledto_9 hb' V hN B F X N T hk hdp hu hret
end
end
local macro_rules | `(tactic| walk_at "call ref") => `(tactic| (k_here; k_dflt ((first | ((with_reducible show wpAny _ _ (call _ [Value.str (Str.ofString _) _, _]) _ _ _); refine' ledto_c (i := 7) ?hi ?hj ?hb ?V ?hN ?B ?F ?X ?N ?T ?hk ?dp ?un ?_) | refine' ledto_c ?hi ?hj ?hb ?V ?hN ?B ?F ?X ?N ?T ?hk ?dp ?un ?_); walk_at "use_args"; walk_at "use_N"; (case hb => assumption); (case hi => first | with_reducible exact nm_ne0 (by assumption) | with_reducible assumption | with_reducible decide | omega); (case hj => first | with_reducible assumption | with_reducible decide | omega); k_whole; intro x' h' tk' t1' t2' t3' F' N' l1; (try dsimp only at N'); (try k_lt l1); (try k_sweep))))
section
variable (w : World) (mean : ExcName → Option Value) (mg mb : Str → Option Value) (news : List (Addr × Obj)) (tk t1 t2 t3 : Tok) (kind : Str) (n : Int) (a b : Addr) (o : Obj)
variable (i j : Nat)
section
variable {w : World} {mean : ExcName → Option Value} {mg mb : Str → Option Value}
  {dp un : Nat} {gd : Option (List Code)} {cn : Str} {cs : Scope} {c a : Addr} {ccd : Value} {cl : List (Str × Addr)} {outer : List Env} {A₀ : Around} {base h₀ : Heap} {L : Addr} {m : Str → Option Value} {s : Shared} {news : List (Addr × Obj)} {Q E : Value → Shared → Prop}
  {o : Obj} {i j : Nat} {n : Int} {tk : Tok}
def ledK (k : Nat) : Nat := if k = 0 then 7 else k
theorem ledK_0 {k : Nat} (hk : k < 10) (h : (nm k == Str.ofString "Bool") = true) : ledK k = 7 := by
  have : k = 0 := nm_inj hk (by decide) (eq_of_beq h)
  rw [ledK, if_pos this]
theorem ledK_1 {k : Nat} (h : (nm k == Str.ofString "Bool") = false) : ledK k = k := if_neg (Nat.ne_of_gt (nm_ne0 h))
theorem ledboth_c {o1 o2 : Obj} {i1 i2 : Nat} {n1 n2 : Int} {a1 a2 : Addr} (V1 : VObj o1 i1 n1) (hN1 : (a1, o1) ∈ news) (V2 : VObj o2 i2 n2) (hN2 : (a2, o2) ∈ news) (hb1 : BigOK n1) (hb2 : BigOK n2)
    (B : Below A₀ base outer h₀) (F : Fr h₀ L s.heap m) (X : (KF w.params).In h₀) (N : News h₀ L s.heap news) (T : Top Vw lo mean mg mb h₀) (hk : cs.kind = .function)
     (hdp : dp + 36 < recursionLimit) (hu : un + 300 < cLine)
     (hret : ∀ g, g = ledK (max i1 i2) → ∀ z y x h' tk t1 t2 t3 u1 u2 u3, Fr h₀ L h' m → News h₀ L h' ((z, tupV [.ref x, .ref y]) :: (y, tint (nm g) (wrapZ g n2) u1 u2 u3) :: (x, tint (nm g) (wrapZ g n1) t1 t2 t3) :: news) → Q (.ref z) { s with heap := h', toks := tk })
     : wpAny (model Pr w) (ktrTop dp un gd cn cs L c ccd cl outer) (call (.ref 237) [.ref a1, .ref a2]) Q E s := by
  have b1 := V1.lt
  have b2 := V2.lt
  have b3 : max i1 i2 < 10 := by omega
  refine wpAny_call ?_; (k_dflt cell_enter)
  k_steps
  · exact hret _ (ledK_0 b3 (by assumption)).symm _ _ _ _ _ _ _ _ _ _ _ (by assumption) (by assumption)
  · exact hret _ (ledK_1 (by assumption)).symm _ _ _ _ _ _ _ _ _ _ _ (by assumption) (by assumption)
end
end
section
variable (w : World) (mean : ExcName → Option Value) (mg mb : Str → Option Value) (news : List (Addr × Obj)) (tk t1 t2 t3 : Tok) (kind : Str) (n : Int) (a b : Addr) (o : Obj)
variable (i j : Nat)
/-- the law's own bounds of a kind; a wall before the great numbers -/
structure Bnd (i : Nat) (lo hi : Int) : Prop where
  lo_ : lo = lowZ i
  hi_ : hi = highZ i
theorem Bnd.room {i : Nat} {lo hi n : Int} (h : Bnd i lo hi) (h1 : lo ≤ n) (h2 : n ≤ hi) : Room i n := ⟨h.lo_ ▸ h1, h.hi_ ▸ h2⟩
theorem Bnd.noLo {i : Nat} {lo hi n : Int} (h : Bnd i lo hi) (h1 : n < lo) : ¬Room i n := fun z => by have := z.out.1; rw [← h.lo_] at this; omega
theorem Bnd.noHi {i : Nat} {lo hi n : Int} (h : Bnd i lo hi) (h1 : hi < n) : ¬Room i n := fun z => by have := z.out.2; rw [← h.hi_] at this; omega
def asD (k : Nat) (n : Int) : PyData := if k = 0 then .tuple [.str (Str.ofString "bool"), .bool (decide (n = 1))] else .tuple [.str (Str.ofString "int"), .str (nm k), .int n]
theorem reads_as {h : Heap} {x : Addr} {k : Nat} {n : Int} {t1 t2 t3 : Tok} (hx : h.get? x = some (asO k n t1 t2 t3)) : Reads h (.ref x) (asD k n) [] := by
  unfold asO at hx
  unfold asD
  by_cases h0 : k = 0
  · rw [if_pos h0] at hx ⊢
    exact reads_tuple_at hx rfl rfl (.cons (.str _ _) (.cons (.bool _) .nil))
  · rw [if_neg h0] at hx ⊢
    exact reads_tuple_at hx rfl rfl (.cons (.str _ _) (.cons (.str _ _) (.cons (.int _ _) .nil)))
theorem nm_ok : ∀ k, PyData.strOk (nm k) = true
  | 0 => by decide +kernel | 1 => by decide +kernel | 2 => by decide +kernel | 3 => by decide +kernel | 4 => by decide +kernel | 5 => by decide +kernel | 6 => by decide +kernel | 7 => by decide +kernel | 8 => by decide +kernel
  | n + 9 => by show PyData.strOk (Str.ofString "BigInt") = true; decide +kernel
theorem bo_ok : PyData.strOk (Str.ofString "bool") = true := by decide +kernel
theorem in_ok : PyData.strOk (Str.ofString "int") = true := by decide +kernel
theorem shaped_as (k : Nat) (n : Int) : SeqAt.shaped (asD k n) = true := by
  unfold asD
  split <;> simp [SeqAt.shaped, PyData.canLay0, PyData.canLayAll0, PyData.depth, PyData.depthAll, nm_ok, bo_ok, in_ok]
theorem shaped_as2 (k : Nat) (n1 n2 : Int) : SeqAt.shaped (.tuple [asD k n1, asD k n2]) = true := by
  unfold asD
  split <;> simp [SeqAt.shaped, PyData.canLay0, PyData.canLayAll0, PyData.depth, PyData.depthAll, nm_ok, bo_ok, in_ok]
theorem eqv_as (k : Nat) (n : Int) : PyData.eqv (asD k n) (asD k n) = true := by
  unfold asD
  split <;> simp [PyData.eqv, PyData.eqvAll]
theorem eqv_as2 (k : Nat) (n1 n2 : Int) : PyData.eqv (.tuple [asD k n1, asD k n2]) (.tuple [asD k n1, asD k n2]) = true := by
  simp [PyData.eqv, PyData.eqvAll, eqv_as]
section
variable {w : World} {mean : ExcName → Option Value} {mg mb : Str → Option Value}
  {dp un : Nat} {gd : Option (List Code)} {cn : Str} {cs : Scope} {c a : Addr} {ccd : Value} {cl : List (Str × Addr)} {outer : List Env} {A₀ : Around} {base h₀ : Heap} {L : Addr} {m : Str → Option Value} {s : Shared} {news : List (Addr × Obj)} {Q E : Value → Shared → Prop}
  {o : Obj} {i j k : Nat} {n : Int} {tk t1 : Tok}
theorem bounds_w (hi : i < 10) (B : Below A₀ base outer h₀) (F : Fr h₀ L s.heap m) (X : (KF w.params).In h₀) (N : News h₀ L s.heap news) (T : Top Vw lo mean mg mb h₀) (hk : cs.kind = .function)
    (hd' : dp + 12 < recursionLimit) (hu : un + 96 < cLine) (h : ∀ lw hg, Bnd i lw hg → ∀ x h' tk t1 t2, Fr h₀ L h' m → News h₀ L h' ((x, pairO lw t1 hg t2) :: news) → (∀ q ∈ news, q.1 < x) → Q (.ref x) { s with heap := h', toks := tk }) :
    wpAny (model Pr w) (ktrTop dp un gd cn cs L a ccd cl outer) (call (.ref 264) [.str (nm i) tk]) Q E s :=
  use_T (bounds_c w mean mg mb tk i hi) B F X N T hk hd' hu fun x h' tk' t1 t2 _ F' N' l => h _ _ ⟨rfl, rfl⟩ x h' tk' t1 t2 F' N' l
theorem eq_as {prog : Program} {A : Around} {x y : Addr} {t1 t2 t3 u1 u2 u3 : Tok} (hu : A.units + 64 < cLine) (hx : s.heap.get? x = some (asO k n t1 t2 t3)) (hy : s.heap.get? y = some (asO k n u1 u2 u3)) (h : Q (.bool true) s) :
    wpAny (model prog w) A (compareOp .Eq (.ref x) (.ref y)) Q E s :=
  eq_dataH (reads_as hx) (reads_as hy) (shaped_as k n) (shaped_as k n) hu (by rw [eqv_as]; exact h)
theorem conv_yes (hi : i < 10) (hb' : BigOK n) (hr : Room i n) (V : VObj o j n) (hN : (a, o) ∈ news)
    (B : Below A₀ base outer h₀) (F : Fr h₀ L s.heap m) (X : (KF w.params).In h₀) (N : News h₀ L s.heap news) (T : Top Vw lo mean mg mb h₀) (hk : cs.kind = .function)
     (hdp : dp + 24 < recursionLimit) (hu : un + 200 < cLine)
     (hret : ∀ x h' tk t1 t2 t3, Fr h₀ L h' m → News h₀ L h' ((x, asO i n t1 t2 t3) :: news) → (∀ q ∈ news, q.1 < x) → Q (.ref x) { s with heap := h', toks := tk }) : wpAny (model Pr w) (ktrTop dp un gd cn cs L c ccd cl outer) (call (.ref 216) [.str (nm i) tk, .ref a]) Q E s :=
  conv_c hi hb' V hN B F X N T hk hdp hu (fun _ => hret) fun no => absurd hr no
theorem conv_no (hi : i < 10) (hb' : BigOK n) (hr : ¬Room i n) (V : VObj o j n) (hN : (a, o) ∈ news)
    (B : Below A₀ base outer h₀) (F : Fr h₀ L s.heap m) (X : (KF w.params).In h₀) (N : News h₀ L s.heap news) (T : Top Vw lo mean mg mb h₀) (hk : cs.kind = .function)
     (hdp : dp + 24 < recursionLimit) (hu : un + 200 < cLine)
     (hexc : FlyTo base h₀ L m (envX cn cs L c ccd cl :: outer) news E s) : wpAny (model Pr w) (ktrTop dp un gd cn cs L c ccd cl outer) (call (.ref 216) [.str (nm i) tk, .ref a]) Q E s :=
  conv_c hi hb' V hN B F X N T hk hdp hu (fun z => absurd z hr) fun _ => hexc
theorem beq_dec (n : Int) : (n == 1) = decide (n = 1) := rfl
theorem as_c (hi : i < 10)
    (B : Below A₀ base outer h₀) (F : Fr h₀ L s.heap m) (X : (KF w.params).In h₀) (N : News h₀ L s.heap news) (T : Top Vw lo mean mg mb h₀) (hk : cs.kind = .function)
     (hdp : dp + 12 < recursionLimit) (hu : un + 96 < cLine)
     (hret : ∀ x h' tk t1 t2 t3, Fr h₀ L h' m → News h₀ L h' ((x, asO i n t1 t2 t3) :: news) → (∀ q ∈ news, q.1 < x) → Q (.ref x) { s with heap := h', toks := tk }) : wpAny (model Pr w) (ktrTop dp un gd cn cs L c ccd cl outer) (call (.ref 285) [.str (nm i) tk, .int n t1]) Q E s := by
  refine wpAny_call ?_; (k_dflt cell_enter)
  k_steps
  · have e := nm_inj hi (by decide : (0 : Nat) < 10) (eq_of_beq (by assumption))
    subst e
    rename News h₀ L _ ((_, _) :: news) => zN
    exact hret _ _ _ _ 0 0 (by assumption) zN (by first | assumption | exact lt_allLt (by assumption))
  · have h9 : ∀ t1 t2 t3, asO i n t1 t2 t3 = tint (nm i) n t1 t2 t3 := fun _ _ _ => if_neg (Nat.ne_of_gt (nm_ne0 (by assumption)))
    exact hret _ _ _ _ _ _ (by assumption) (by rw [h9]; assumption) (by first | assumption | exact lt_allLt (by assumption))
end
end
local macro_rules | `(tactic| walk_at "call ref") => `(tactic| (k_here; k_dflt (refine' as_c ?hi ?B ?F ?X ?N ?T ?hk ?dp ?un ?_; walk_at "use_args"; (case hi => with_reducible assumption); k_whole; intro x' h' tk' t1' t2' t3' F' N' l1; (try dsimp only at N'); (try k_lt l1); (try k_sweep))))
section
variable (w : World) (mean : ExcName → Option Value) (mg mb : Str → Option Value) (news : List (Addr × Obj)) (tk t1 t2 t3 : Tok) (kind : Str) (n : Int) (a b : Addr) (o : Obj)
variable (i j : Nat)
section
variable {w : World} {mean : ExcName → Option Value} {mg mb : Str → Option Value}
  {dp un : Nat} {gd : Option (List Code)} {cn : Str} {cs : Scope} {c a : Addr} {ccd : Value} {cl : List (Str × Addr)} {outer : List Env} {A₀ : Around} {base h₀ : Heap} {L : Addr} {m : Str → Option Value} {s : Shared} {news : List (Addr × Obj)} {Q E : Value → Shared → Prop}
  {o : Obj} {i j k : Nat} {n : Int} {tk t1 : Tok}
end
end
local macro_rules | `(tactic| walk_at "call ref") => `(tactic| (k_here; k_dflt (refine' bounds_w ?hi ?B ?F ?X ?N ?T ?hk ?dp ?un ?_; walk_at "use_args"; (case hi => with_reducible assumption); k_whole; intro lw' hg' hB' x' h' tk' t1' t2' F' N' l1; (try dsimp only at N'); (try k_lt l1); (try k_sweep))))
section
variable (w : World) (mean : ExcName → Option Value) (mg mb : Str → Option Value) (news : List (Addr × Obj)) (tk t1 t2 t3 : Tok) (kind : Str) (n : Int) (a b : Addr) (o : Obj)
variable (i j : Nat)
section
variable {w : World} {mean : ExcName → Option Value} {mg mb : Str → Option Value}
  {dp un : Nat} {gd : Option (List Code)} {cn : Str} {cs : Scope} {c a : Addr} {ccd : Value} {cl : List (Str × Addr)} {outer : List Env} {A₀ : Around} {base h₀ : Heap} {L : Addr} {m : Str → Option Value} {s : Shared} {news : List (Addr × Obj)} {Q E : Value → Shared → Prop}
  {o : Obj} {i j k : Nat} {n : Int} {tk t1 : Tok}
theorem room_lt {lo hi : Int} (h : Bnd i lo hi) (h1 : ¬ lo ≤ n) : ¬Room i n := h.noLo (by omega)
theorem room_gt {lo hi : Int} (h : Bnd i lo hi) (h1 : ¬ n ≤ hi) : ¬Room i n := h.noHi (by omega)
end
end
local macro_rules | `(tactic| walk_at "room_yes") => `(tactic| with_reducible first | assumption | exact Bnd.room (by assumption) (by assumption) (by assumption))
section
variable (w : World) (mean : ExcName → Option Value) (mg mb : Str → Option Value) (news : List (Addr × Obj)) (tk t1 t2 t3 : Tok) (kind : Str) (n : Int) (a b : Addr) (o : Obj)
variable (i j : Nat)
section
variable {w : World} {mean : ExcName → Option Value} {mg mb : Str → Option Value}
  {dp un : Nat} {gd : Option (List Code)} {cn : Str} {cs : Scope} {c a : Addr} {ccd : Value} {cl : List (Str × Addr)} {outer : List Env} {A₀ : Around} {base h₀ : Heap} {L : Addr} {m : Str → Option Value} {s : Shared} {news : List (Addr × Obj)} {Q E : Value → Shared → Prop}
  {o : Obj} {i j k : Nat} {n : Int} {tk t1 : Tok}
end
end
local macro_rules | `(tactic| walk_at "room_no") => `(tactic| with_reducible first | assumption | exact room_lt (by assumption) (by assumption) | exact room_gt (by assumption) (by assumption))
section
variable (w : World) (mean : ExcName → Option Value) (mg mb : Str → Option Value) (news : List (Addr × Obj)) (tk t1 t2 t3 : Tok) (kind : Str) (n : Int) (a b : Addr) (o : Obj)
variable (i j : Nat)
section
variable {w : World} {mean : ExcName → Option Value} {mg mb : Str → Option Value}
  {dp un : Nat} {gd : Option (List Code)} {cn : Str} {cs : Scope} {c a : Addr} {ccd : Value} {cl : List (Str × Addr)} {outer : List Env} {A₀ : Around} {base h₀ : Heap} {L : Addr} {m : Str → Option Value} {s : Shared} {news : List (Addr × Obj)} {Q E : Value → Shared → Prop}
  {o : Obj} {i j k : Nat} {n : Int} {tk t1 : Tok}
end
end
local macro_rules | `(tactic| walk_at "call ref") => `(tactic| (k_here; k_dflt ((first | (refine' conv_yes ?hi ?hb ?hr ?V ?hN ?B ?F ?X ?N ?T ?hk ?dp ?un ?_; walk_at "use_args"; (case hi => with_reducible assumption); walk_at "use_N"; (case hr => walk_at "room_yes")) | (refine' conv_no ?hi ?hb ?hr ?V ?hN ?B ?F ?X ?N ?T ?hk ?dp ?un ?_; walk_at "use_args"; (case hi => with_reducible assumption); walk_at "use_N"; (case hr => walk_at "room_no"))); (case hb => assumption); k_whole; first | ((with_reducible show FlyTo _ _ _ _ _ _ _ _); intro e' dx' x1' x2' es' k' u1' u2' u3' v1' v2' g' h' tk' F' R' U' G'; (try dsimp only [partsE] at R' U' ⊢)) | (intro x' h' tk' t1' t2' t3' F' N' l1; (try dsimp only at N'); (try k_lt l1); (try k_sweep)))))
section
variable (w : World) (mean : ExcName → Option Value) (mg mb : Str → Option Value) (news : List (Addr × Obj)) (tk t1 t2 t3 : Tok) (kind : Str) (n : Int) (a b : Addr) (o : Obj)
variable (i j : Nat)
section
variable {w : World} {mean : ExcName → Option Value} {mg mb : Str → Option Value}
  {dp un : Nat} {gd : Option (List Code)} {cn : Str} {cs : Scope} {c a : Addr} {ccd : Value} {cl : List (Str × Addr)} {outer : List Env} {A₀ : Around} {base h₀ : Heap} {L : Addr} {m : Str → Option Value} {s : Shared} {news : List (Addr × Obj)} {Q E : Value → Shared → Prop}
  {o : Obj} {i j k : Nat} {n : Int} {tk t1 : Tok}
end
end
local macro_rules | `(tactic| walk_at "compareOp Eq ref ref") => `(tactic| (k_here; k_dflt (refine' eq_as ?hu ?ha ?hb ?_; (case ha => exact News.get (by k_asm) (by k_mem)); (case hb => exact News.get (by k_asm) (by k_mem)); (case hu => k_units); k_whole)))
section
variable (w : World) (mean : ExcName → Option Value) (mg mb : Str → Option Value) (news : List (Addr × Obj)) (tk t1 t2 t3 : Tok) (kind : Str) (n : Int) (a b : Addr) (o : Obj)
variable (i j : Nat)
section
variable {w : World} {mean : ExcName → Option Value} {mg mb : Str → Option Value}
  {dp un : Nat} {gd : Option (List Code)} {cn : Str} {cs : Scope} {c a : Addr} {ccd : Value} {cl : List (Str × Addr)} {outer : List Env} {A₀ : Around} {base h₀ : Heap} {L : Addr} {m : Str → Option Value} {s : Shared} {news : List (Addr × Obj)} {Q E : Value → Shared → Prop}
  {o : Obj} {i j k : Nat} {n : Int} {tk t1 : Tok}
end
end
local macro_rules | `(tactic| walk_at "getAttr ref") => `(tactic| (k_here; k_dflt (refine' get_fault ?X ?e ?d ?a ?l ?v ?_; (case X => k_in); (case e => exact News.get (by k_asm) (by k_mem)); (case d => exact News.get (by k_asm) (by k_mem)); (case a => k_dflt k_is); (case l => assumption); (case v => k_handed))))
section
variable (w : World) (mean : ExcName → Option Value) (mg mb : Str → Option Value) (news : List (Addr × Obj)) (tk t1 t2 t3 : Tok) (kind : Str) (n : Int) (a b : Addr) (o : Obj)
variable (i j : Nat)
section
variable {w : World} {mean : ExcName → Option Value} {mg mb : Str → Option Value}
  {dp un : Nat} {gd : Option (List Code)} {cn : Str} {cs : Scope} {c a : Addr} {ccd : Value} {cl : List (Str × Addr)} {outer : List Env} {A₀ : Around} {base h₀ : Heap} {L : Addr} {m : Str → Option Value} {s : Shared} {news : List (Addr × Obj)} {Q E : Value → Shared → Prop}
  {o : Obj} {i j k : Nat} {n : Int} {tk t1 : Tok}
abbrev tabHit (pos : Pos) (c' : Addr) : Obj := tabObj (#[] ++ #[rawInt pos.line, rawInt pos.col, .ref c'])
/-- the table of a code's lambdas: empty, or with the one lambda's code -/
def TabL (P : Addr) (pos : Pos) (q : Str) (l : List (Addr × Obj)) : Prop :=
  l = [(P, tabObj #[])] ∨ ∃ c' oc vs t, l = [(c', oc), (P, tabHit pos c')] ∧ oc.data = .fields vs ∧ vs[1]? = some (.str q t)
theorem TabL.mem {P : Addr} {pos : Pos} {q : Str} {l : List (Addr × Obj)} (h : TabL P pos q l) : ∃ o, (P, o) ∈ l := by
  rcases h with rfl | ⟨_, _, _, _, rfl, _⟩
  · exact ⟨_, .head _⟩
  · exact ⟨_, .tail _ (.head _)⟩
section
variable {M : Model} {A : Around} {E : Value → Shared → Prop} {s : Shared} {h₀ : Heap} {L a c P : Addr} {m mg mb : Str → Option Value} {cn : Str} {cs : Scope} {ccd : Value} {cl : List (Str × Addr)} {pre l news : List (Addr × Obj)}
  {p : Program} {loose : List Str} {mean : ExcName → Option Value} {name qual : Str} {params : Arguments} {body : Expr} {scope : Scope} {pos : Pos} {firstLine : Nat} {clos : List (Str × Addr)} {Q : Value → Shared → Prop}
theorem lam_tab {o9 : Obj} (F : Fr h₀ L s.heap m) (N9 : News h₀ L s.heap (pre ++ (P, o9) :: (l ++ news))) (T : Top p loose mean mg mb h₀) (C : CodeHd h₀ c P) (hcd : ccd = .ref c) (TL : TabL P pos qual l) (hp : ∀ q ∈ pre, q.1 ≠ P) (hn : ∀ q ∈ news, q.1 ≠ P)
    (hcl : closureFor scope (envX cn cs L a ccd cl) = pure clos)
    (h : ∀ f c' oc vs t ctv h' tk, Fr h₀ L h' m → News h₀ L h' ((f, kla_obj name qual params body scope clos ((mg "__name__").getD .none) c' ctv) :: (c', oc) :: (P, tabHit pos c') :: (pre ++ news)) →
      oc.data = .fields vs → vs[1]? = some (.str qual t) → ((c', oc) ∈ l ∨ ∀ q ∈ news, q.1 < c') → (∀ q ∈ (c', oc) :: (P, tabHit pos c') :: (pre ++ news), q.1 < f) → Q (.ref f) { s with heap := h', toks := tk }) :
    wpAny M A (makeFunction name qual params (.expr body) scope (envX cn cs L a ccd cl) [] [] [] pos firstLine) Q E s := by
  have N : News h₀ L s.heap (pre ++ (l ++ news)) := fun q hq => by
    rcases List.mem_append.mp hq with hq | hq
    · exact N9 _ (List.mem_append_left _ hq)
    · exact N9 _ (List.mem_append_right _ (.tail _ hq))
  rcases TL with rfl | ⟨c', oc, vs, t, rfl, d1, d2⟩
  · have N' : News h₀ L s.heap ((P, tabObj #[]) :: (pre ++ news)) := fun q hq => by
      rcases List.mem_cons.mp hq with rfl | hq
      · exact N _ (List.mem_append_right _ (.head _))
      · rcases List.mem_append.mp hq with hq | hq
        · exact N _ (List.mem_append_left _ hq)
        · exact N _ (List.mem_append_right _ (.tail _ hq))
    refine kla_nest F N' T C hcd (UpdF.head fun q hq => by
      rcases List.mem_append.mp hq with hq | hq
      · exact hp q hq
      · exact hn q hq) True.intro rfl hcl fun f c' oc vs t ctv h' tk F' N' d1 d2 l1 l2 => ?_
    refine h f c' oc vs t ctv h' tk F' N' d1 d2 (.inr fun q hq => l1 q (.tail _ (List.mem_append_right _ hq))) fun q hq => ?_
    rcases List.mem_cons.mp hq with rfl | hq
    · exact l2
    · rcases List.mem_cons.mp hq with rfl | hq
      · exact Nat.lt_trans (l1 (P, tabObj #[]) (.head _)) l2
      · exact Nat.lt_trans (l1 _ (.tail _ hq)) l2
  · refine kla_hit (P := P) (ps := #[] ++ #[rawInt pos.line, rawInt pos.col, .ref c']) (c' := c') F N T C hcd (List.mem_append_right _ (.tail _ (.head _))) (by simp [TriplesOk, rawInt]) (by simp [codeAmong, rawInt]) hcl fun f ctv h' tk F' N' l1 => ?_
    have sub : ∀ q ∈ (c', oc) :: (P, tabHit pos c') :: (pre ++ news), q ∈ pre ++ ([(c', oc), (P, tabHit pos c')] ++ news) := fun q hq => by
      rcases List.mem_cons.mp hq with rfl | hq
      · exact List.mem_append_right _ (.head _)
      · rcases List.mem_cons.mp hq with rfl | hq
        · exact List.mem_append_right _ (.tail _ (.head _))
        · rcases List.mem_append.mp hq with hq | hq
          · exact List.mem_append_left _ hq
          · exact List.mem_append_right _ (.tail _ (.tail _ hq))
    refine h f c' oc vs t ctv h' tk F' (fun q hq => ?_) d1 d2 (.inl (.head _)) fun q hq => l1 q (sub q hq)
    rcases List.mem_cons.mp hq with rfl | hq
    · exact N' _ (.head _)
    · exact N' _ (.tail _ (sub q hq))
end
end
end
local macro_rules | `(tactic| walk_at "call ref") => `(tactic| (k_here; (first | (with_reducible show wpAny _ _ (call (Value.ref 278) _) _ _ _) | (with_reducible show wpAny _ _ (call (Value.ref 304) _) _ _ _) | (with_reducible show wpAny _ _ (call (Value.ref 297) _) _ _ _)); k_dflt (refine wpAny_call ?_; walk_at "my_go")))
section
variable (w : World) (mean : ExcName → Option Value) (mg mb : Str → Option Value) (news : List (Addr × Obj)) (tk t1 t2 t3 : Tok) (kind : Str) (n : Int) (a b : Addr) (o : Obj)
variable (i j : Nat)
section
variable {w : World} {mean : ExcName → Option Value} {mg mb : Str → Option Value}
  {dp un : Nat} {gd : Option (List Code)} {cn : Str} {cs : Scope} {c a : Addr} {ccd : Value} {cl : List (Str × Addr)} {outer : List Env} {A₀ : Around} {base h₀ : Heap} {L : Addr} {m : Str → Option Value} {s : Shared} {news : List (Addr × Obj)} {Q E : Value → Shared → Prop}
  {o : Obj} {i j k : Nat} {n : Int} {tk t1 : Tok}
theorem lt_pair {p : Addr × Obj} {l : List (Addr × Obj)} {d : Addr} (h : p.1 < d) (h' : ∀ q ∈ l, q.1 < d) : ∀ q ∈ p :: l, q.1 < d := fun q hq => by
  rcases List.mem_cons.mp hq with rfl | hq
  · exact h
  · exact h' q hq
end
end
local macro_rules | `(tactic| walk_at "cut_lt") => `(tactic| first | assumption | exact lt_allLt (by assumption) | (rename AllLt _ _ => zl; exact lt_allLt zl) | (rename _ ∧ AllLt _ _ => zl; exact lt_pair zl.1 (lt_allLt zl.2)) | (rename _ < _ ∧ _ < _ ∧ AllLt _ _ => zl; exact lt_pair zl.1 (lt_pair zl.2.1 (lt_allLt zl.2.2))) | (rename _ < _ ∧ _ < _ ∧ _ < _ ∧ AllLt _ _ => zl; exact lt_pair zl.1 (lt_pair zl.2.1 (lt_pair zl.2.2.1 (lt_allLt zl.2.2.2)))) | (rename _ < _ ∧ _ < _ ∧ _ < _ ∧ _ < _ ∧ AllLt _ _ => zl; exact lt_pair zl.1 (lt_pair zl.2.1 (lt_pair zl.2.2.1 (lt_pair zl.2.2.2.1 (lt_allLt zl.2.2.2.2))))) | (rename _ < _ ∧ _ < _ ∧ _ < _ ∧ _ < _ ∧ _ < _ ∧ AllLt _ _ => zl; exact lt_pair zl.1 (lt_pair zl.2.1 (lt_pair zl.2.2.1 (lt_pair zl.2.2.2.1 (lt_pair zl.2.2.2.2.1 (lt_allLt zl.2.2.2.2.2)))))))
section
variable (w : World) (mean : ExcName → Option Value) (mg mb : Str → Option Value) (news : List (Addr × Obj)) (tk t1 t2 t3 : Tok) (kind : Str) (n : Int) (a b : Addr) (o : Obj)
variable (i j : Nat)
section
variable {w : World} {mean : ExcName → Option Value} {mg mb : Str → Option Value}
  {dp un : Nat} {gd : Option (List Code)} {cn : Str} {cs : Scope} {c a : Addr} {ccd : Value} {cl : List (Str × Addr)} {outer : List Env} {A₀ : Around} {base h₀ : Heap} {L : Addr} {m : Str → Option Value} {s : Shared} {news : List (Addr × Obj)} {Q E : Value → Shared → Prop}
  {o : Obj} {i j k : Nat} {n : Int} {tk t1 : Tok}
structure CutMark : Prop where
  out : True
theorem cut_num {M : Model} {A : Around} {st : Stmt} {env : Env} {name : Str} {Q : Flow → Shared → Prop} (V : VObj o i n) (F : Fr h₀ L s.heap m) (N : News h₀ L s.heap news)
    (hh : ∀ Q' : Flow → Shared → Prop, CutMark → (∀ t h' tk, Fr h₀ L h' (fun y => if y = name then some (.int n t) else m y) → News h₀ L h' news → Q' .next { s with heap := h', toks := tk }) → wpAny M A (exec st env) Q' E s)
    (h2 : ∀ t h' tk, Fr h₀ L h' (fun y => if y = name then some (.int n t) else m y) → News h₀ L h' news → Q .next { s with heap := h', toks := tk }) : wpAny M A (exec st env) Q E s := hh Q ⟨trivial⟩ h2
theorem cut_due {M : Model} {A : Around} {st : Stmt} {env : Env} {name : Str} {Q : Flow → Shared → Prop} (V : VObj o i n) (hk : k < 10) (F : Fr h₀ L s.heap m) (N : News h₀ L s.heap news)
    (hh : ∀ Q' : Flow → Shared → Prop, CutMark → (Room k n → ∀ x t1 t2 t3 h' tk, Fr h₀ L h' (fun y => if y = name then some (.ref x) else m y) → News h₀ L h' ((x, asO k n t1 t2 t3) :: news) → (∀ q ∈ news, q.1 < x) → Q' .next { s with heap := h', toks := tk }) →
      (¬Room k n → ∀ t h' tk, Fr h₀ L h' (fun y => if y = name then some (.str (Str.ofString "InexactError") t) else m y) → News h₀ L h' news → Q' .next { s with heap := h', toks := tk }) → wpAny M A (exec st env) Q' E s)
    (hy : Room k n → ∀ x t1 t2 t3 h' tk, Fr h₀ L h' (fun y => if y = name then some (.ref x) else m y) → News h₀ L h' ((x, asO k n t1 t2 t3) :: news) → (∀ q ∈ news, q.1 < x) → Q .next { s with heap := h', toks := tk })
    (hn : ¬Room k n → ∀ t h' tk, Fr h₀ L h' (fun y => if y = name then some (.str (Str.ofString "InexactError") t) else m y) → News h₀ L h' news → Q .next { s with heap := h', toks := tk })
    : wpAny M A (exec st env) Q E s := hh Q ⟨trivial⟩ hy hn
end
end
local macro_rules | `(tactic| walk_at "exec Assign") => `(tactic| (k_here; (with_reducible show wpAny _ _ (exec (Stmt.Assign [Expr.Name (Str.ofString "number") _] _ _) _) _ _ _); (fail_if_success (with_reducible rename CutMark => zz)); focus k_dflt (refine' cut_num (name := Str.ofString "number") ?zV ?zF ?zN ?zhh ?_; (case zV => assumption); (case zF => k_asm); (case zN => k_asm); (case zhh => (with_reducible rename VObj _ _ _ => zV); intro Q' mk hq; (rcases id zV with ⟨zh0, zh1, zt1, zt2, zt3, zrfl⟩ | ⟨zrfl, zc, zt1, zrfl', zrfl''⟩) <;> (subst_vars; k_steps; exact hq _ _ _ (by assumption) (by assumption))); k_whole; intro t' h' tk' F' N')))
section
variable (w : World) (mean : ExcName → Option Value) (mg mb : Str → Option Value) (news : List (Addr × Obj)) (tk t1 t2 t3 : Tok) (kind : Str) (n : Int) (a b : Addr) (o : Obj)
variable (i j : Nat)
section
variable {w : World} {mean : ExcName → Option Value} {mg mb : Str → Option Value}
  {dp un : Nat} {gd : Option (List Code)} {cn : Str} {cs : Scope} {c a : Addr} {ccd : Value} {cl : List (Str × Addr)} {outer : List Env} {A₀ : Around} {base h₀ : Heap} {L : Addr} {m : Str → Option Value} {s : Shared} {news : List (Addr × Obj)} {Q E : Value → Shared → Prop}
  {o : Obj} {i j k : Nat} {n : Int} {tk t1 : Tok}
end
end
local macro_rules | `(tactic| walk_at "exec Assign") => `(tactic| (k_here; (with_reducible show wpAny _ _ (exec (Stmt.Assign [Expr.Name (Str.ofString "due") _] _ _) _) _ _ _); (fail_if_success (with_reducible rename CutMark => zz)); focus k_dflt (refine' cut_due (name := Str.ofString "due") ?zV ?zk ?zF ?zN ?zhh ?_ ?_; (case zV => assumption); (case zk => with_reducible assumption); (case zF => k_asm); (case zN => k_asm); (case zhh => intro Q' mk hy hn; k_steps; all_goals (first | exact hy (by walk_at "room_yes") _ _ _ _ _ _ (by assumption) (by assumption) (by walk_at "cut_lt") | exact hn (by walk_at "room_no") _ _ _ (by assumption) (by assumption))); rotate_left; k_whole; intro no' t' h' tk' F' N'; rotate_left; k_whole; intro yes' x' t1' t2' t3' h' tk' F' N' l1; (try k_lt l1); (try k_sweep))))
section
variable (w : World) (mean : ExcName → Option Value) (mg mb : Str → Option Value) (news : List (Addr × Obj)) (tk t1 t2 t3 : Tok) (kind : Str) (n : Int) (a b : Addr) (o : Obj)
variable (i j : Nat)
section
variable {w : World} {mean : ExcName → Option Value} {mg mb : Str → Option Value}
  {dp un : Nat} {gd : Option (List Code)} {cn : Str} {cs : Scope} {c a : Addr} {ccd : Value} {cl : List (Str × Addr)} {outer : List Env} {A₀ : Around} {base h₀ : Heap} {L : Addr} {m : Str → Option Value} {s : Shared} {news : List (Addr × Obj)} {Q E : Value → Shared → Prop}
  {o : Obj} {i j k : Nat} {n : Int} {tk t1 : Tok}
end
end
local macro_rules | `(tactic| walk_at "eval Lambda") => `(tactic| (k_here; k_dflt (refine' kla_eval ?d0 ?_; (case d0 => exact rfl)); k_dflt ((first | (refine' lam_tab (P := 299) (pre := [_, _, _]) ?F ?N ?T ?C ?cd ?U ?t ?n ?cl ?_; (case F => k_asm); (case N => k_asm)) | (refine' lam_tab (P := 299) (pre := [_, _, _, _]) ?F ?N ?T ?C ?cd ?U ?t ?n ?cl ?_; (case F => k_asm); (case N => k_asm))); (case T => k_asm); (case cd => exact rfl); (case C => kn_code); (case U => assumption); (case t => k_all); (case n => k_all); (case cl => exact rfl); k_whole); intro f' c' oc' vs' t' ct' h' tk' F' N' d1' d2' l0 l1; (try dsimp only [List.cons_append, List.nil_append] at N'); (try k_lt l1)))
section
variable (w : World) (mean : ExcName → Option Value) (mg mb : Str → Option Value) (news : List (Addr × Obj)) (tk t1 t2 t3 : Tok) (kind : Str) (n : Int) (a b : Addr) (o : Obj)
variable (i j : Nat)
section
variable {w : World} {mean : ExcName → Option Value} {mg mb : Str → Option Value}
  {dp un : Nat} {gd : Option (List Code)} {cn : Str} {cs : Scope} {c a : Addr} {ccd : Value} {cl : List (Str × Addr)} {outer : List Env} {A₀ : Around} {base h₀ : Heap} {L : Addr} {m : Str → Option Value} {s : Shared} {news : List (Addr × Obj)} {Q E : Value → Shared → Prop}
  {o : Obj} {i j k : Nat} {n : Int} {tk t1 : Tok}
abbrev QS : Str := (Str.ofString "_law_single_right" ++ Str.ofString ".<locals>.") ++ Str.ofString "<lambda>"
theorem tab_order {c' P : Addr} {oc o : Obj} {l news : List (Addr × Obj)} (h : (c', oc) ∈ l ∨ ∀ q ∈ news, q.1 < c') : ∀ q ∈ [(c', oc), (P, o)], q.1 = P ∨ q ∈ l ∨ ∀ p ∈ news, p.1 < q.1 := fun q hq => by
  rcases List.mem_cons.mp hq with rfl | hq
  · exact .inr h
  · rw [List.mem_singleton.mp hq]
    exact .inl rfl
theorem news_two {g h : Heap} {L : Addr} {p1 p2 : Addr × Obj} {news big : List (Addr × Obj)} (N : News g L h big) (h1 : p1 ∈ big) (h2 : p2 ∈ big) (h3 : ∀ q ∈ news, q ∈ big) : News g L h ([p1, p2] ++ news) := fun q hq => by
  rcases List.mem_cons.mp hq with rfl | hq
  · exact N _ h1
  rcases List.mem_cons.mp hq with rfl | hq
  · exact N _ h2
  · exact N _ (h3 q hq)
end
end
local macro_rules | `(tactic| walk_at "news_sub") => `(tactic| (refine' news_two ?zN ?z1 ?z2 ?z3; (case zN => assumption); (case z1 => k_mem); (case z2 => k_mem); (case z3 => intro q hq; k_mem)))
section
variable (w : World) (mean : ExcName → Option Value) (mg mb : Str → Option Value) (news : List (Addr × Obj)) (tk t1 t2 t3 : Tok) (kind : Str) (n : Int) (a b : Addr) (o : Obj)
variable (i j : Nat)
section
variable {w : World} {mean : ExcName → Option Value} {mg mb : Str → Option Value}
  {dp un : Nat} {gd : Option (List Code)} {cn : Str} {cs : Scope} {c a : Addr} {ccd : Value} {cl : List (Str × Addr)} {outer : List Env} {A₀ : Around} {base h₀ : Heap} {L : Addr} {m : Str → Option Value} {s : Shared} {news : List (Addr × Obj)} {Q E : Value → Shared → Prop}
  {o : Obj} {i j k : Nat} {n : Int} {tk t1 : Tok}
theorem single_c {l : List (Addr × Obj)} (TL : TabL 299 { line := 163, col := 21, endLine := 163, endCol := 54 } QS l) (hi : k < 10) (hb : BigOK n) (V : VObj o i n) (hN : (a, o) ∈ news) (hne : ∀ q ∈ news, q.1 ≠ 299)
    (B : Below A₀ base outer h₀) (F : Fr h₀ L s.heap m) (X : (KF w.params).In h₀) (N : News h₀ L s.heap (l ++ news)) (T : Top Vw lo mean mg mb h₀) (XB : (KF w.params).In base) (TB : Top Vw lo mean mg mb base) (D : KtsDicts (outer.filterMap (·.frame)) h₀) (hk : cs.kind = .function)
     (hdp : dp + 60 < recursionLimit) (hu : un + 600 < cLine)
     (hret : ∀ l' g' h' tk, TabL 299 { line := 163, col := 21, endLine := 163, endCol := 54 } QS l' → (∀ q ∈ l', q.1 = 299 ∨ q ∈ l ∨ ∀ p ∈ news, p.1 < q.1) → KtsTurn (outer.filterMap (·.frame)) h₀ g' → Fr g' L h' m → News g' L h' (l' ++ news) → Below A₀ base outer g' → Q (.bool true) { s with heap := h', toks := tk })
      : wpAny (model Pr w) (ktrTop dp un gd cn cs L c ccd cl outer) (call (.ref 304) [.ref a, .str (nm k) tk]) Q E s := by
  have C1 := codeHd_of_K (c := 303) (P := 299) XB (by kernel_rfl)
  have hN' : (a, o) ∈ l ++ news := List.mem_append_right _ hN
  obtain ⟨o9, h9⟩ := TL.mem
  have N9 : News h₀ L s.heap ((299, o9) :: (l ++ news)) := fun q hq => by
    rcases List.mem_cons.mp hq with rfl | hq
    · exact N _ (List.mem_append_left _ h9)
    · exact N _ hq
  clear N
  refine wpAny_call ?_; k_dflt walk_at "my_go"
  k_steps
  · refine hret [(_, _), (299, tabHit { line := 163, col := 21, endLine := 163, endCol := 54 } _)] _ _ _ (.inr ⟨_, _, _, _, rfl, (by assumption), (by assumption)⟩) (tab_order (by assumption)) KtsTurn.refl (by assumption) ?_ (by assumption)
    walk_at "news_sub"
  · rw [beq_self_eq_true]
    refine hret [(_, _), (299, tabHit { line := 163, col := 21, endLine := 163, endCol := 54 } _)] _ _ _ (.inr ⟨_, _, _, _, rfl, (by assumption), (by assumption)⟩) (tab_order (by assumption)) (by assumption) (by assumption) ?_ (by assumption)
    walk_at "news_sub"
end
end
section
variable (w : World) (mean : ExcName → Option Value) (mg mb : Str → Option Value) (news : List (Addr × Obj)) (tk t1 t2 t3 : Tok) (kind : Str) (n : Int) (a b : Addr) (o : Obj)
variable (i j : Nat)
section
variable {w : World} {mean : ExcName → Option Value} {mg mb : Str → Option Value}
  {dp un : Nat} {gd : Option (List Code)} {cn : Str} {cs : Scope} {c a : Addr} {ccd : Value} {cl : List (Str × Addr)} {outer : List Env} {A₀ : Around} {base h₀ : Heap} {L : Addr} {m : Str → Option Value} {s : Shared} {news : List (Addr × Obj)} {Q E : Value → Shared → Prop}
  {o : Obj} {i j k : Nat} {n : Int} {tk t1 : Tok}
abbrev QP : Str := (Str.ofString "_law_pair_right" ++ Str.ofString ".<locals>.") ++ Str.ofString "<lambda>"
abbrev posP : Pos := { line := 153, col := 17, endLine := 153, endCol := 51 }
abbrev listN (l : List Value) (k : Nat) : Obj := { cls := .type "list", data := .seq l.toArray k }
theorem off1_of {D : Addr} : ∀ {l : List (Addr × Obj)}, (∀ q ∈ l, q.1 ≠ D) → LCg.Off1 D l
  | [], _ => trivial
  | p :: r, h => ⟨h p (.head _), off1_of fun q hq => h q (.tail _ hq)⟩
theorem comp2 {prog : Program} {A : Around} {E : Value → Shared → Prop} {Q : Flow → Shared → Prop} {env : Env} {scope : Scope} {x y : Str} {elt : Expr} {a1 a2 T : Addr} {o1 o2 : Obj} {d1 d2 : PyData} (h12 : a1 ≠ a2) (hh : A.handled = none) (hLe : env.locals = L)
    (F : Fr h₀ L s.heap m) (N : News h₀ L s.heap news) (hT : (T, tupV [.ref a1, .ref a2]) ∈ news) (h1 : (a1, o1) ∈ news) (h2 : (a2, o2) ∈ news)
    (e1 : ∀ C (s₃ : Shared) m₃ E', s₃.heap.Ns C m₃ → m₃ x = some (.ref a1) → s₃.heap.get? a1 = some o1 → Fr h₀ L s₃.heap m → News h₀ L s₃.heap news → wpAny (model prog w) A (eval elt (compEnv scope C env)) (fun r s₄ => Carried r d1 ∧ Keeps s₃ s₄) E' s₃)
    (e2 : ∀ C (s₃ : Shared) m₃ E', s₃.heap.Ns C m₃ → m₃ x = some (.ref a2) → s₃.heap.get? a2 = some o2 → Fr h₀ L s₃.heap m → News h₀ L s₃.heap news → wpAny (model prog w) A (eval elt (compEnv scope C env)) (fun r s₄ => Carried r d2 ∧ Keeps s₃ s₄) E' s₃)
    (hQ : ∀ D y1 y2 k h' tk, Carried y1 d1 → Carried y2 d2 → Fr h₀ L h' (fun q => if q = y then some (.ref D) else m q) → News h₀ L h' ((D, listN [y1, y2] k) :: news) → LCg.Off1 D news → Q .next { s with heap := h', toks := tk }) :
    wpAny (model prog w) A (pyIter (.ref T)) (CompPostA prog w A env scope x y [] elt Q) E s := by
  subst hLe
  have hls : s.heap.IsTuple T #[.ref a1, .ref a2] := ⟨_, (N _ hT).1, rfl, 0, rfl⟩
  have hlt : T < s.heap.objs.size := Heap.lt_size (N _ hT).1
  refine wpAny_pyIter_tuple hls ?_
  have nio : ∀ {b : Addr} {o : Obj}, s.heap.get? b = some o → b ∉ [s.heap.objs.size] := fun e hb => absurd (Heap.lt_size e) ((List.mem_singleton.mp hb) ▸ Nat.lt_irrefl _)
  have up : ∀ {b : Addr} {o : Obj} {o' : Obj}, s.heap.get? b = some o → (s.heap.push o').get? b = some o := fun e => Heap.get?_push_of_some _ e
  refine ⟨fun _ => true, fun v r => (v = .ref a1 → Carried r d1) ∧ (v = .ref a2 → Carried r d2), s.heap.objs.size, [s.heap.objs.size, T], [s.heap.objs.size], 2, _, _, m, rfl, Walks.tuple hh _ T (Nat.ne_of_lt hlt) #[.ref a1, .ref a2], (by rw [sizeLine_eq]; omega),
    ⟨⟨_, Heap.get?_push_size _ rfl, rfl, rfl⟩, hls.at fun o e => Heap.get?_push_of_some _ e⟩, ?_, ?_, (F.push _).ns, ⟨?_, ?_⟩, ?_⟩
  · intro b hb
    show b < (s.heap.push _).objs.size
    rw [Heap.size_push]
    rcases List.mem_cons.mp hb with rfl | hb
    · exact Nat.lt_succ_self _
    · rw [List.mem_singleton.mp hb]; exact Nat.lt_succ_of_lt hlt
  · intro hm
    exact absurd F.ns.lt ((List.mem_singleton.mp hm) ▸ Nat.lt_irrefl _)
  · intros
    exact wpAny_pure ⟨rfl, _, _, rfl, fun _ _ e => e⟩
  · intro C i v s₃ m₃ E' hP _ hn hm hk htk
    have g1 : s₃.heap.get? a1 = some o1 := hk _ _ (nio (N _ h1).1) (up (N _ h1).1)
    have g2 : s₃.heap.get? a2 = some o2 := hk _ _ (nio (N _ h2).1) (up (N _ h2).1)
    have hv : v = .ref a1 ∨ v = .ref a2 := by
      have hP' : #[Value.ref a1, Value.ref a2][i]? = some v := hP
      rcases i with _ | _ | i
      · exact .inl (Option.some.inj hP').symm
      · exact .inr (Option.some.inj hP').symm
      · simp at hP'
    have F₃ : Fr h₀ env.locals s₃.heap m := ⟨F.ns.at' fun o e => hk _ _ (nio e) (up e), fun b o e => hk _ _ (nio (F.keep b o e)) (up (F.keep b o e)), F.above⟩
    have N₃ : News h₀ env.locals s₃.heap news := fun q hq => ⟨hk _ _ (nio (N q hq).1) (up (N q hq).1), (N q hq).2⟩
    rcases hv with rfl | rfl
    · exact wpAny_mono (e1 C s₃ m₃ E' hn hm g1 F₃ N₃) (fun r s₄ z => ⟨⟨fun _ => z.1, fun e => absurd (Value.ref.inj e) h12⟩, z.2⟩) fun _ _ e => e
    · exact wpAny_mono (e2 C s₃ m₃ E' hn hm g2 F₃ N₃) (fun r s₄ z => ⟨⟨fun e => absurd (Value.ref.inj e).symm h12, fun _ => z.1⟩, z.2⟩) fun _ _ e => e
  · intro D h' tk ys vs hnew hlD hplD hlen hP hF hn' hk
    have e' : vs = [.ref a1, .ref a2] := by simpa using walked_is (items := #[.ref a1, .ref a2]) hlen hP
    subst e'
    obtain ⟨y1, y2, hy, c1, c2⟩ : ∃ y1 y2, ys.toList = [y1, y2] ∧ Carried y1 d1 ∧ Carried y2 d2 := by
      have hF' : Paired (fun v r => (v = .ref a1 → Carried r d1) ∧ (v = .ref a2 → Carried r d2)) [Value.ref a1, Value.ref a2] ys.toList := hF
      generalize ys.toList = l at hF'
      cases hF' with
      | cons p1 r => cases r with
        | cons p2 r => cases r with
          | nil => exact ⟨_, _, rfl, p1.1 rfl, p2.2 rfl⟩
    obtain ⟨k, hD⟩ := hplD
    have ey : ys = #[y1, y2] := by rw [← Array.toArray_toList (xs := ys), hy]
    subst ey
    have nD : h₀.get? D = none := by
      cases e : h₀.get? D with
      | none => rfl
      | some o' => rw [Heap.get?_push_of_some _ (F.keep _ _ e)] at hnew; cases hnew
    have hLD : D ≠ env.locals := fun e => by
      obtain ⟨o, _, _, ho, _⟩ := F.ns
      rw [e, Heap.get?_push_of_some _ ho] at hnew; cases hnew
    refine hQ D y1 y2 k h' tk c1 c2 ⟨hn', fun b o' e => hk b o' (Nat.ne_of_lt (Nat.lt_of_lt_of_le (Heap.lt_size e) F.above)) (nio (F.keep b o' e)) (up (F.keep b o' e)), F.above⟩ (fun p hp => ?_) (off1_of fun q hq e => by rw [← e, Heap.get?_push_of_some _ (N q hq).1] at hnew; cases hnew)
    · rcases List.mem_cons.mp hp with rfl | hp
      · exact ⟨hD, hLD, nD⟩
      · exact ⟨hk _ _ (N p hp).2.1 (nio (N p hp).1) (up (N p hp).1), (N p hp).2⟩
theorem comp2_k {prog : Program} {A : Around} {E : Value → Shared → Prop} {Q : Flow → Shared → Prop} {env : Env} {scope : Scope} {x y : Str} {elt : Expr} {a1 a2 T : Addr} {o1 o2 : Obj} {i1 i2 : Nat} {n1 n2 : Int} (V1 : VObj o1 i1 n1) (V2 : VObj o2 i2 n2) (h12 : a1 ≠ a2) (hh : A.handled = none) (hLe : env.locals = L)
    (F : Fr h₀ L s.heap m) (N : News h₀ L s.heap news) (hT : (T, tupV [.ref a1, .ref a2]) ∈ news) (h1 : (a1, o1) ∈ news) (h2 : (a2, o2) ∈ news)
    (e1 : VObj o1 i1 n1 → ∀ C (s₃ : Shared) m₃ E', s₃.heap.Ns C m₃ → m₃ x = some (.ref a1) → s₃.heap.get? a1 = some o1 → Fr h₀ L s₃.heap m → News h₀ L s₃.heap news → wpAny (model prog w) A (eval elt (compEnv scope C env)) (fun r s₄ => Carried r (.str (nm i1)) ∧ Keeps s₃ s₄) E' s₃)
    (e2 : VObj o2 i2 n2 → ∀ C (s₃ : Shared) m₃ E', s₃.heap.Ns C m₃ → m₃ x = some (.ref a2) → s₃.heap.get? a2 = some o2 → Fr h₀ L s₃.heap m → News h₀ L s₃.heap news → wpAny (model prog w) A (eval elt (compEnv scope C env)) (fun r s₄ => Carried r (.str (nm i2)) ∧ Keeps s₃ s₄) E' s₃)
    (hQ : ∀ D t1 t2 k h' tk, Fr h₀ L h' (fun q => if q = y then some (.ref D) else m q) → News h₀ L h' ((D, listN [.str (nm i1) t1, .str (nm i2) t2] k) :: news) → LCg.Off1 D news → Q .next { s with heap := h', toks := tk }) :
    wpAny (model prog w) A (pyIter (.ref T)) (CompPostA prog w A env scope x y [] elt Q) E s :=
  comp2 h12 hh hLe F N hT h1 h2 (e1 V1) (e2 V2) fun D y1 y2 k h' tk c1 c2 F' N' o => by
    cases c1
    cases c2
    exact hQ D _ _ k h' tk F' N' o
theorem comp2_n {prog : Program} {A : Around} {E : Value → Shared → Prop} {Q : Flow → Shared → Prop} {env : Env} {scope : Scope} {x y : Str} {elt : Expr} {a1 a2 T : Addr} {o1 o2 : Obj} {i1 i2 : Nat} {n1 n2 : Int} (V1 : VObj o1 i1 n1) (V2 : VObj o2 i2 n2) (h12 : a1 ≠ a2) (hh : A.handled = none) (hLe : env.locals = L)
    (F : Fr h₀ L s.heap m) (N : News h₀ L s.heap news) (hT : (T, tupV [.ref a1, .ref a2]) ∈ news) (h1 : (a1, o1) ∈ news) (h2 : (a2, o2) ∈ news)
    (e1 : VObj o1 i1 n1 → ∀ C (s₃ : Shared) m₃ E', s₃.heap.Ns C m₃ → m₃ x = some (.ref a1) → s₃.heap.get? a1 = some o1 → Fr h₀ L s₃.heap m → News h₀ L s₃.heap news → wpAny (model prog w) A (eval elt (compEnv scope C env)) (fun r s₄ => Carried r (.int n1) ∧ Keeps s₃ s₄) E' s₃)
    (e2 : VObj o2 i2 n2 → ∀ C (s₃ : Shared) m₃ E', s₃.heap.Ns C m₃ → m₃ x = some (.ref a2) → s₃.heap.get? a2 = some o2 → Fr h₀ L s₃.heap m → News h₀ L s₃.heap news → wpAny (model prog w) A (eval elt (compEnv scope C env)) (fun r s₄ => Carried r (.int n2) ∧ Keeps s₃ s₄) E' s₃)
    (hQ : ∀ D t1 t2 k h' tk, Fr h₀ L h' (fun q => if q = y then some (.ref D) else m q) → News h₀ L h' ((D, listN [.int n1 t1, .int n2 t2] k) :: news) → LCg.Off1 D news → Q .next { s with heap := h', toks := tk }) :
    wpAny (model prog w) A (pyIter (.ref T)) (CompPostA prog w A env scope x y [] elt Q) E s :=
  comp2 h12 hh hLe F N hT h1 h2 (e1 V1) (e2 V2) fun D y1 y2 k h' tk c1 c2 F' N' o => by
    cases c1
    cases c2
    exact hQ D _ _ k h' tk F' N' o
theorem ld_bT {M : Model} {A : Around} {E : Value → Shared → Prop} {K : Frag} {p : Program} {loose : List Str} {x : Str} {pos : Pos} {v : Value} {Q : Value → Shared → Prop} {scope : Scope} {C : Addr} {env : Env} (F : Fr h₀ L s.heap m) (X : K.In h₀) (T : Top p loose mean mg mb h₀) (e : nsIn K mainGlobals x = some none) (hv : bootBuiltins x = some v) (hn : x ≠ "__name__") (h : Q v s) (hg : env.globals = mainGlobals := by rfl) (hb : env.builtins = builtinsNs := by rfl)
    (hk : (compEnv scope C env).scope.kind = .function := by rfl) (hx : (compEnv scope C env).kindOf x = some .globalImplicit := by rfl) (hd : (x == ("__debug__" : Str)) = false := by decide) :
    wpAny M A (eval (.Name x pos) (compEnv scope C env)) Q E s :=
  Name_function_global hk hx (loadGlobal_builtin (env := compEnv scope C env) (show s.heap.Ns env.globals mg from hg ▸ (T.keeps F.keep).g) (mg_none_of X T.g e) (show s.heap.Ns env.builtins mb from hb ▸ (T.keeps F.keep).b) ((T.builtins x hn).trans hv) h) hd
end
end
local macro_rules | `(tactic| walk_at "eval Name") => `(tactic| (k_here; (with_reducible show wpAny _ _ (eval (Expr.Name (Str.ofString "int") _) (compEnv _ _ _)) _ _ _); (with_reducible rename Fr _ _ _ _ => kF); k_dflt (refine' ld_bT kF ?k1 ?k2 ?k3 ?k4 ?k5 ?_; (case k1 => k_asm); (case k2 => k_asm); (case k3 => k_is); (case k4 => boot_by_name); (case k5 => decide); k_whole)))
section
variable (w : World) (mean : ExcName → Option Value) (mg mb : Str → Option Value) (news : List (Addr × Obj)) (tk t1 t2 t3 : Tok) (kind : Str) (n : Int) (a b : Addr) (o : Obj)
variable (i j : Nat)
section
variable {w : World} {mean : ExcName → Option Value} {mg mb : Str → Option Value}
  {dp un : Nat} {gd : Option (List Code)} {cn : Str} {cs : Scope} {c a : Addr} {ccd : Value} {cl : List (Str × Addr)} {outer : List Env} {A₀ : Around} {base h₀ : Heap} {L : Addr} {m : Str → Option Value} {s : Shared} {news : List (Addr × Obj)} {Q E : Value → Shared → Prop}
  {o : Obj} {i j k : Nat} {n : Int} {tk t1 : Tok}
theorem isTup_of {h : Heap} {a : Addr} {l : Array Value} (hg : h.get? a = some { cls := .type "tuple", data := .seq l 0 }) : IsTup h a l := ⟨_, hg, rfl, 0, rfl⟩
end
end
local macro_rules | `(tactic| walk_at "elt_end") => `(tactic| (first | exact Carried.str _ _ | exact Carried.int _ _ | exact ⟨_, _, rfl, fun _ _ e => e⟩))
section
variable (w : World) (mean : ExcName → Option Value) (mg mb : Str → Option Value) (news : List (Addr × Obj)) (tk t1 t2 t3 : Tok) (kind : Str) (n : Int) (a b : Addr) (o : Obj)
variable (i j : Nat)
section
variable {w : World} {mean : ExcName → Option Value} {mg mb : Str → Option Value}
  {dp un : Nat} {gd : Option (List Code)} {cn : Str} {cs : Scope} {c a : Addr} {ccd : Value} {cl : List (Str × Addr)} {outer : List Env} {A₀ : Around} {base h₀ : Heap} {L : Addr} {m : Str → Option Value} {s : Shared} {news : List (Addr × Obj)} {Q E : Value → Shared → Prop}
  {o : Obj} {i j k : Nat} {n : Int} {tk t1 : Tok}
end
end
local macro_rules | `(tactic| walk_at "elt_tac") => `(tactic| (intro zV C s₃ m₃ E' hn hm hg zF zN; (rcases id zV with ⟨zh0, zh1, zt1, zt2, zt3, zrfl⟩ | ⟨zrfl, zc, zt1, zrfl', zrfl''⟩) <;> (subst_vars; (have hI := isTup_of hg); k_steps; all_goals walk_at "elt_end")))
section
variable (w : World) (mean : ExcName → Option Value) (mg mb : Str → Option Value) (news : List (Addr × Obj)) (tk t1 t2 t3 : Tok) (kind : Str) (n : Int) (a b : Addr) (o : Obj)
variable (i j : Nat)
section
variable {w : World} {mean : ExcName → Option Value} {mg mb : Str → Option Value}
  {dp un : Nat} {gd : Option (List Code)} {cn : Str} {cs : Scope} {c a : Addr} {ccd : Value} {cl : List (Str × Addr)} {outer : List Env} {A₀ : Around} {base h₀ : Heap} {L : Addr} {m : Str → Option Value} {s : Shared} {news : List (Addr × Obj)} {Q E : Value → Shared → Prop}
  {o : Obj} {i j k : Nat} {n : Int} {tk t1 : Tok}
end
end
local macro_rules | `(tactic| walk_at "pyIter ref") => `(tactic| (k_here; (with_reducible show wpAny _ _ (pyIter _) (CompPostA _ _ _ _ _ _ (Str.ofString "kinds") _ _ _) _ _); focus k_dflt (refine' comp2_k ?V1 ?V2 ?h12 ?hh ?hL ?F ?N ?hT ?h1 ?h2 ?e1 ?e2 ?_; (case h12 => assumption); (case hh => with_unfolding_all rfl); (case hL => rfl); (case F => k_asm); (case N => k_asm); (case hT => k_mem); (case h1 => k_mem); (case h2 => k_mem); (case V1 => assumption); (case V2 => assumption); (case e1 => walk_at "elt_tac"); (case e2 => walk_at "elt_tac"); k_whole; intro D' y1' y2' k' h' tk' F' N' o1'; (try simp only [LCg.Off1, and_true] at o1'); (try k_sweep))))
section
variable (w : World) (mean : ExcName → Option Value) (mg mb : Str → Option Value) (news : List (Addr × Obj)) (tk t1 t2 t3 : Tok) (kind : Str) (n : Int) (a b : Addr) (o : Obj)
variable (i j : Nat)
section
variable {w : World} {mean : ExcName → Option Value} {mg mb : Str → Option Value}
  {dp un : Nat} {gd : Option (List Code)} {cn : Str} {cs : Scope} {c a : Addr} {ccd : Value} {cl : List (Str × Addr)} {outer : List Env} {A₀ : Around} {base h₀ : Heap} {L : Addr} {m : Str → Option Value} {s : Shared} {news : List (Addr × Obj)} {Q E : Value → Shared → Prop}
  {o : Obj} {i j k : Nat} {n : Int} {tk t1 : Tok}
end
end
local macro_rules | `(tactic| walk_at "pyIter ref") => `(tactic| (k_here; (with_reducible show wpAny _ _ (pyIter _) (CompPostA _ _ _ _ _ _ (Str.ofString "numbers") _ _ _) _ _); focus k_dflt (refine' comp2_n ?V1 ?V2 ?h12 ?hh ?hL ?F ?N ?hT ?h1 ?h2 ?e1 ?e2 ?_; (case h12 => assumption); (case hh => with_unfolding_all rfl); (case hL => rfl); (case F => k_asm); (case N => k_asm); (case hT => k_mem); (case h1 => k_mem); (case h2 => k_mem); (case V1 => assumption); (case V2 => assumption); (case e1 => walk_at "elt_tac"); (case e2 => walk_at "elt_tac"); k_whole; intro D' y1' y2' k' h' tk' F' N' o1'; (try simp only [LCg.Off1, and_true] at o1'); (try k_sweep))))
section
variable (w : World) (mean : ExcName → Option Value) (mg mb : Str → Option Value) (news : List (Addr × Obj)) (tk t1 t2 t3 : Tok) (kind : Str) (n : Int) (a b : Addr) (o : Obj)
variable (i j : Nat)
section
variable {w : World} {mean : ExcName → Option Value} {mg mb : Str → Option Value}
  {dp un : Nat} {gd : Option (List Code)} {cn : Str} {cs : Scope} {c a : Addr} {ccd : Value} {cl : List (Str × Addr)} {outer : List Env} {A₀ : Around} {base h₀ : Heap} {L : Addr} {m : Str → Option Value} {s : Shared} {news : List (Addr × Obj)} {Q E : Value → Shared → Prop}
  {o : Obj} {i j k : Nat} {n : Int} {tk t1 : Tok}
theorem ne_kinds {prog : Program} {A : Around} {E : Value → Shared → Prop} {Q : Value → Shared → Prop} {x y : Addr} {i1 i2 : Nat} {t1 t2 u1 u2 : Tok} {n n' : Nat} (hu : A.units + 64 < cLine) (hx : s.heap.get? x = some { cls := .type "list", data := .seq #[.str (nm i1) t1, .str (nm i2) t2] n })
    (hy : s.heap.get? y = some { cls := .type "list", data := .seq #[.str (nm i1) u1, .str (nm i2) u2] n' }) (h : Q (.bool false) s) : wpAny (model prog w) A (compareOp .NotEq (.ref x) (.ref y)) Q E s := by
  have sh : SeqAt.shaped (.list [.str (nm i1), .str (nm i2)]) = true := by simp [SeqAt.shaped, PyData.canLay0, PyData.canLayAll0, PyData.depth, PyData.depthAll, nm_ok]
  have ev : PyData.eqv (.list [.str (nm i1), .str (nm i2)]) (.list [.str (nm i1), .str (nm i2)]) = true := by simp [PyData.eqv, PyData.eqvAll]
  exact ne_dataH (reads_list_at hx rfl rfl (.cons (.str _ _) (.cons (.str _ _) .nil))) (reads_list_at hy rfl rfl (.cons (.str _ _) (.cons (.str _ _) .nil))) sh sh hu (by rw [ev]; exact h)
theorem ne_nums {prog : Program} {A : Around} {E : Value → Shared → Prop} {Q : Value → Shared → Prop} {x y : Addr} {i1 i2 : Int} {t1 t2 u1 u2 : Tok} {n n' : Nat} (hu : A.units + 64 < cLine) (hx : s.heap.get? x = some { cls := .type "list", data := .seq #[.int i1 t1, .int i2 t2] n })
    (hy : s.heap.get? y = some { cls := .type "list", data := .seq #[.int i1 u1, .int i2 u2] n' }) (h : Q (.bool false) s) : wpAny (model prog w) A (compareOp .NotEq (.ref x) (.ref y)) Q E s := by
  have sh : SeqAt.shaped (.list [.int i1, .int i2]) = true := by simp [SeqAt.shaped, PyData.canLay0, PyData.canLayAll0, PyData.depth, PyData.depthAll]
  have ev : PyData.eqv (.list [.int i1, .int i2]) (.list [.int i1, .int i2]) = true := by simp [PyData.eqv, PyData.eqvAll]
  exact ne_dataH (reads_list_at hx rfl rfl (.cons (.int _ _) (.cons (.int _ _) .nil))) (reads_list_at hy rfl rfl (.cons (.int _ _) (.cons (.int _ _) .nil))) sh sh hu (by rw [ev]; exact h)
theorem ne_as2 {prog : Program} {A : Around} {E : Value → Shared → Prop} {Q : Value → Shared → Prop} {x y x1 x2 y1 y2 : Addr} {n1 n2 : Int} {t1 t2 t3 u1 u2 u3 v1 v2 v3 w1 w2 w3 : Tok} {n n' : Nat} (hu : A.units + 64 < cLine) (hx : s.heap.get? x = some { cls := .type "tuple", data := .seq #[.ref x1, .ref x2] n })
    (hy : s.heap.get? y = some { cls := .type "tuple", data := .seq #[.ref y1, .ref y2] n' }) (h1 : s.heap.get? x1 = some (asO k n1 t1 t2 t3)) (h2 : s.heap.get? x2 = some (asO k n2 u1 u2 u3)) (h3 : s.heap.get? y1 = some (asO k n1 v1 v2 v3)) (h4 : s.heap.get? y2 = some (asO k n2 w1 w2 w3)) (h : Q (.bool false) s) :
    wpAny (model prog w) A (compareOp .NotEq (.ref x) (.ref y)) Q E s :=
  ne_dataH (reads_tuple_at hx rfl rfl (.cons (reads_as h1) (.cons (reads_as h2) .nil))) (reads_tuple_at hy rfl rfl (.cons (reads_as h3) (.cons (reads_as h4) .nil))) (shaped_as2 k n1 n2) (shaped_as2 k n1 n2) hu (by rw [eqv_as2]; exact h)
abbrev intO (k : Nat) (n : Int) (t1 t2 t3 : Tok) (z : Nat) : Obj := { cls := .type "tuple", data := .seq #[.str (Str.ofString "int") t1, .str (nm k) t2, .int n t3] z }
theorem ne_led {prog : Program} {A : Around} {E : Value → Shared → Prop} {Q : Value → Shared → Prop} {x y x1 x2 y1 y2 : Addr} {n1 n2 : Int} {t1 t2 t3 u1 u2 u3 v1 v2 v3 w1 w2 w3 : Tok} {n n' z1 z2 z3 z4 : Nat} (hu : A.units + 64 < cLine) (hx : s.heap.get? x = some { cls := .type "tuple", data := .seq #[.ref x1, .ref x2] n })
    (hy : s.heap.get? y = some { cls := .type "tuple", data := .seq #[.ref y1, .ref y2] n' }) (h1 : s.heap.get? x1 = some (intO k n1 t1 t2 t3 z1)) (h2 : s.heap.get? x2 = some (intO k n2 u1 u2 u3 z2)) (h3 : s.heap.get? y1 = some (intO k n1 v1 v2 v3 z3)) (h4 : s.heap.get? y2 = some (intO k n2 w1 w2 w3 z4)) (h : Q (.bool false) s) :
    wpAny (model prog w) A (compareOp .NotEq (.ref x) (.ref y)) Q E s := by
  have rd : ∀ {a : Addr} {m : Int} {t1 t2 t3 : Tok} {z : Nat}, s.heap.get? a = some (intO k m t1 t2 t3 z) → Reads s.heap (.ref a) (.tuple [.str (Str.ofString "int"), .str (nm k), .int m]) [] := fun hx => reads_tuple_at hx rfl rfl (.cons (.str _ _) (.cons (.str _ _) (.cons (.int _ _) .nil)))
  have sh : SeqAt.shaped (.tuple [.tuple [.str (Str.ofString "int"), .str (nm k), .int n1], .tuple [.str (Str.ofString "int"), .str (nm k), .int n2]]) = true := by simp [SeqAt.shaped, PyData.canLay0, PyData.canLayAll0, PyData.depth, PyData.depthAll, nm_ok, in_ok]
  have ev : PyData.eqv (.tuple [.tuple [.str (Str.ofString "int"), .str (nm k), .int n1], .tuple [.str (Str.ofString "int"), .str (nm k), .int n2]]) (.tuple [.tuple [.str (Str.ofString "int"), .str (nm k), .int n1], .tuple [.str (Str.ofString "int"), .str (nm k), .int n2]]) = true := by simp [PyData.eqv, PyData.eqvAll]
  exact ne_dataH (reads_tuple_at hx rfl rfl (.cons (rd h1) (.cons (rd h2) .nil))) (reads_tuple_at hy rfl rfl (.cons (rd h3) (.cons (rd h4) .nil))) sh sh hu (by rw [ev]; exact h)
end
end
local macro_rules | `(tactic| walk_at "compareOp NotEq ref ref") => `(tactic| (k_here; k_dflt ((first | refine' ne_kinds ?hu ?ha ?hb ?_ | refine' ne_nums ?hu ?ha ?hb ?_ ); (case ha => exact News.get (by k_asm) (by k_mem)); (case hb => exact News.get (by k_asm) (by k_mem)); (case hu => k_units); k_whole)))
section
variable (w : World) (mean : ExcName → Option Value) (mg mb : Str → Option Value) (news : List (Addr × Obj)) (tk t1 t2 t3 : Tok) (kind : Str) (n : Int) (a b : Addr) (o : Obj)
variable (i j : Nat)
section
variable {w : World} {mean : ExcName → Option Value} {mg mb : Str → Option Value}
  {dp un : Nat} {gd : Option (List Code)} {cn : Str} {cs : Scope} {c a : Addr} {ccd : Value} {cl : List (Str × Addr)} {outer : List Env} {A₀ : Around} {base h₀ : Heap} {L : Addr} {m : Str → Option Value} {s : Shared} {news : List (Addr × Obj)} {Q E : Value → Shared → Prop}
  {o : Obj} {i j k : Nat} {n : Int} {tk t1 : Tok}
end
end
local macro_rules | `(tactic| walk_at "compareOp NotEq ref ref") => `(tactic| (k_here; k_dflt ((refine' ne_nums ?hu ?ha ?hb ?_ ); (case ha => exact News.get (by k_asm) (by k_mem)); (case hb => exact News.get (by k_asm) (by k_mem)); (case hu => k_units); k_whole)))
section
variable (w : World) (mean : ExcName → Option Value) (mg mb : Str → Option Value) (news : List (Addr × Obj)) (tk t1 t2 t3 : Tok) (kind : Str) (n : Int) (a b : Addr) (o : Obj)
variable (i j : Nat)
section
variable {w : World} {mean : ExcName → Option Value} {mg mb : Str → Option Value}
  {dp un : Nat} {gd : Option (List Code)} {cn : Str} {cs : Scope} {c a : Addr} {ccd : Value} {cl : List (Str × Addr)} {outer : List Env} {A₀ : Around} {base h₀ : Heap} {L : Addr} {m : Str → Option Value} {s : Shared} {news : List (Addr × Obj)} {Q E : Value → Shared → Prop}
  {o : Obj} {i j k : Nat} {n : Int} {tk t1 : Tok}
end
end
local macro_rules | `(tactic| walk_at "compareOp NotEq ref ref") => `(tactic| (k_here; k_dflt ((first | refine' ne_as2 ?hu ?ha ?hb ?h1 ?h2 ?h3 ?h4 ?_ | refine' ne_as2 ?hu ?ha ?hb ?h1 ?h2 ?h3 ?h4 ?_); (case ha => exact News.get (by k_asm) (by k_mem)); (case hb => exact News.get (by k_asm) (by k_mem)); (case h1 => exact News.get (by k_asm) (by k_mem)); (case h2 => exact News.get (by k_asm) (by k_mem)); (case h3 => exact News.get (by k_asm) (by k_mem)); (case h4 => exact News.get (by k_asm) (by k_mem)); (case hu => k_units); k_whole)))
section
variable (w : World) (mean : ExcName → Option Value) (mg mb : Str → Option Value) (news : List (Addr × Obj)) (tk t1 t2 t3 : Tok) (kind : Str) (n : Int) (a b : Addr) (o : Obj)
variable (i j : Nat)
section
variable {w : World} {mean : ExcName → Option Value} {mg mb : Str → Option Value}
  {dp un : Nat} {gd : Option (List Code)} {cn : Str} {cs : Scope} {c a : Addr} {ccd : Value} {cl : List (Str × Addr)} {outer : List Env} {A₀ : Around} {base h₀ : Heap} {L : Addr} {m : Str → Option Value} {s : Shared} {news : List (Addr × Obj)} {Q E : Value → Shared → Prop}
  {o : Obj} {i j k : Nat} {n : Int} {tk t1 : Tok}
end
end
local macro_rules | `(tactic| walk_at "compareOp NotEq ref ref") => `(tactic| (k_here; k_dflt (refine' ne_led ?hu ?ha ?hb ?h1 ?h2 ?h3 ?h4 ?_; (case ha => exact News.get (by k_asm) (by k_mem)); (case hb => exact News.get (by k_asm) (by k_mem)); (case h1 => exact News.get (by k_asm) (by k_mem)); (case h2 => exact News.get (by k_asm) (by k_mem)); (case h3 => exact News.get (by k_asm) (by k_mem)); (case h4 => exact News.get (by k_asm) (by k_mem)); (case hu => k_units); k_whole)))
section
variable (w : World) (mean : ExcName → Option Value) (mg mb : Str → Option Value) (news : List (Addr × Obj)) (tk t1 t2 t3 : Tok) (kind : Str) (n : Int) (a b : Addr) (o : Obj)
variable (i j : Nat)
section
variable {w : World} {mean : ExcName → Option Value} {mg mb : Str → Option Value}
  {dp un : Nat} {gd : Option (List Code)} {cn : Str} {cs : Scope} {c a : Addr} {ccd : Value} {cl : List (Str × Addr)} {outer : List Env} {A₀ : Around} {base h₀ : Heap} {L : Addr} {m : Str → Option Value} {s : Shared} {news : List (Addr × Obj)} {Q E : Value → Shared → Prop}
  {o : Obj} {i j k : Nat} {n : Int} {tk t1 : Tok}
theorem row_heap {h : Heap} (X : (KF w.params).In h) : h.get? 245 = some { cls := .type "list", dict := none, data := .seq rowL.toArray 0, slots := #[] } := X _ _ (by rfl)
end
end
local macro_rules | `(tactic| walk_at "call builtin:list.index") => `(tactic| (k_here; k_dflt (refine' row_index ?hi ?hl ?_; (case hl => exact row_heap (by k_in)); (case hi => first | with_reducible assumption | omega); k_whole)))
section
variable (w : World) (mean : ExcName → Option Value) (mg mb : Str → Option Value) (news : List (Addr × Obj)) (tk t1 t2 t3 : Tok) (kind : Str) (n : Int) (a b : Addr) (o : Obj)
variable (i j : Nat)
section
variable {w : World} {mean : ExcName → Option Value} {mg mb : Str → Option Value}
  {dp un : Nat} {gd : Option (List Code)} {cn : Str} {cs : Scope} {c a : Addr} {ccd : Value} {cl : List (Str × Addr)} {outer : List Env} {A₀ : Around} {base h₀ : Heap} {L : Addr} {m : Str → Option Value} {s : Shared} {news : List (Addr × Obj)} {Q E : Value → Shared → Prop}
  {o : Obj} {i j k : Nat} {n : Int} {tk t1 : Tok}
theorem row_method {prog : Program} {A : Around} {E : Value → Shared → Prop} {pl : Sem Bool} {Q : Value × List Value → Shared → Prop} (X : (KF w.params).In s.heap) (h : Q (.builtin "list.index", [.ref 245]) s) : wpAny (model prog w) A (getMethod (.ref 245) (Str.ofString "index") pl) Q E s :=
  getMethod_builtin ⟨_, row_heap X, rfl⟩ PySem.F.plainAttrs_list PySem.F.slot_list_index PySem.F.type_list_index (fun a e => by cases e; exact ⟨_, row_heap X, rfl⟩) h
end
end
local macro_rules | `(tactic| walk_at "getMethod ref") => `(tactic| (k_here; (with_reducible show wpAny _ _ (getMethod (Value.ref 245) _ _) _ _ _); k_dflt (refine' row_method ?X ?_; (case X => k_in); k_whole)))
section
variable (w : World) (mean : ExcName → Option Value) (mg mb : Str → Option Value) (news : List (Addr × Obj)) (tk t1 t2 t3 : Tok) (kind : Str) (n : Int) (a b : Addr) (o : Obj)
variable (i j : Nat)
section
variable {w : World} {mean : ExcName → Option Value} {mg mb : Str → Option Value}
  {dp un : Nat} {gd : Option (List Code)} {cn : Str} {cs : Scope} {c a : Addr} {ccd : Value} {cl : List (Str × Addr)} {outer : List Env} {A₀ : Around} {base h₀ : Heap} {L : Addr} {m : Str → Option Value} {s : Shared} {news : List (Addr × Obj)} {Q E : Value → Shared → Prop}
  {o : Obj} {i j k : Nat} {n : Int} {tk t1 : Tok}
theorem row_item' {prog : Program} {w : World} {A : Around} {E : Value → Shared → Prop} {s : Shared} {h₀ : Heap} {L : Addr} {m : Str → Option Value} {value slice : Expr} {k : Int} {u : Tok} {Q : Value → Shared → Prop} {i : Nat} (F : Fr h₀ L s.heap m) (X : (KF w.params).In h₀)
    (hk : k = (i : Int)) (hi : i < 10) (h : ∀ t, Q (.str (nm i) t) s)
    (hs : subscripted slice false (.ref 245) (.int k u) = operate [.ref 245, .int k u] (getItem (.ref 245) (.int k u)) := by with_unfolding_all rfl) :
    wpAny (model prog w) A (subscriptTail value slice (.ref 245) (.int k u)) Q E s := by
  subst hk
  refine row_item F X (by omega) (by omega) ?_ hs
  rw [Int.toNat_natCast]
  exact h _
theorem compEnd_tail {I C D : Addr} {s₁ : Shared} {oI oC oD : Obj} {S : List (Addr × Obj) → Prop} {rest : Value → List (Addr × Obj) → Prop} {y : Value} {h' : Heap} {tk : Nat} (F : Fr h₀ L h' m) (N : News h₀ L h' ((I, oI) :: (C, oC) :: (D, oD) :: news)) (off : LCg.Off3 I C D news) (hS : S news) (r : rest y news) :
    LCg.CompEnd h₀ L m s₁ I oI C oC D oD S rest y { s₁ with heap := h', toks := tk } := LCg.CompEnd.intro F N news (fun _ h => h) off hS r
end
end
local macro_rules | `(tactic| walk_at "CompEnd") => `(tactic| (k_dflt (refine' compEnd_tail ?F ?N ?off ?src ?_; (case F => assumption); (case N => assumption); (case off => assumption); (case src => lcg_src))))
section
variable (w : World) (mean : ExcName → Option Value) (mg mb : Str → Option Value) (news : List (Addr × Obj)) (tk t1 t2 t3 : Tok) (kind : Str) (n : Int) (a b : Addr) (o : Obj)
variable (i j : Nat)
section
variable {w : World} {mean : ExcName → Option Value} {mg mb : Str → Option Value}
  {dp un : Nat} {gd : Option (List Code)} {cn : Str} {cs : Scope} {c a : Addr} {ccd : Value} {cl : List (Str × Addr)} {outer : List Env} {A₀ : Around} {base h₀ : Heap} {L : Addr} {m : Str → Option Value} {s : Shared} {news : List (Addr × Obj)} {Q E : Value → Shared → Prop}
  {o : Obj} {i j k : Nat} {n : Int} {tk t1 : Tok}
theorem max_cast {i1 i2 : Nat} : (if (i2 : Int) > (i1 : Int) then (i2 : Int) else (i1 : Int)) = ((max i1 i2 : Nat) : Int) := by
  split <;> omega
end
end
local macro_rules | `(tactic| walk_at "subscriptTail") => `(tactic| (k_here; (with_reducible show wpAny _ _ (subscriptTail _ _ (Value.ref _) (Value.int _ _)) _ _ _); k_dflt (refine' row_item' ?F ?X ?hk ?hi ?_; (case F => k_asm); (case X => k_in); (case hk => exact max_cast); (case hi => with_reducible assumption); k_whole; intro t')))
section
variable (w : World) (mean : ExcName → Option Value) (mg mb : Str → Option Value) (news : List (Addr × Obj)) (tk t1 t2 t3 : Tok) (kind : Str) (n : Int) (a b : Addr) (o : Obj)
variable (i j : Nat)
section
variable {w : World} {mean : ExcName → Option Value} {mg mb : Str → Option Value}
  {dp un : Nat} {gd : Option (List Code)} {cn : Str} {cs : Scope} {c a : Addr} {ccd : Value} {cl : List (Str × Addr)} {outer : List Env} {A₀ : Around} {base h₀ : Heap} {L : Addr} {m : Str → Option Value} {s : Shared} {news : List (Addr × Obj)} {Q E : Value → Shared → Prop}
  {o : Obj} {i j k : Nat} {n : Int} {tk t1 : Tok}
/-- the pair of numbers at hand -/
structure CutPair (n1 n2 : Int) : Prop where
  out : True
theorem cut_ifdue {M : Model} {A : Around} {st : Stmt} {env : Env} {name : Str} {n1 n2 : Int} {Q : Flow → Shared → Prop} (hk : k < 10) (hb1 : BigOK n1) (hb2 : BigOK n2) (h12 : CutPair n1 n2) (F : Fr h₀ L s.heap m) (N : News h₀ L s.heap news)
    (hh : ∀ Q' : Flow → Shared → Prop, CutMark → (Room k n1 → Room k n2 → ∀ d x y t1 t2 t3 u1 u2 u3 h' tk, Fr h₀ L h' (fun y => if y = name then some (.ref d) else m y) → News h₀ L h' ((d, tupV [.ref x, .ref y]) :: (y, asO k n2 u1 u2 u3) :: (x, asO k n1 t1 t2 t3) :: news) → (∀ q ∈ news, q.1 < x) → x < y → y < d → Q' .next { s with heap := h', toks := tk }) →
      (¬(Room k n1 ∧ Room k n2) → ∀ t h' tk, Fr h₀ L h' (fun y => if y = name then some (.str (Str.ofString "InexactError") t) else m y) → News h₀ L h' news → Q' .next { s with heap := h', toks := tk }) → wpAny M A (exec st env) Q' E s)
    (hy : Room k n1 → Room k n2 → ∀ d x y t1 t2 t3 u1 u2 u3 h' tk, Fr h₀ L h' (fun y => if y = name then some (.ref d) else m y) → News h₀ L h' ((d, tupV [.ref x, .ref y]) :: (y, asO k n2 u1 u2 u3) :: (x, asO k n1 t1 t2 t3) :: news) → (∀ q ∈ news, q.1 < x) → x < y → y < d → Q .next { s with heap := h', toks := tk })
    (hn : ¬(Room k n1 ∧ Room k n2) → ∀ t h' tk, Fr h₀ L h' (fun y => if y = name then some (.str (Str.ofString "InexactError") t) else m y) → News h₀ L h' news → Q .next { s with heap := h', toks := tk })
    : wpAny M A (exec st env) Q E s := hh Q ⟨trivial⟩ hy hn
theorem nm_max1 {i1 i2 : Nat} (h : (i1 : Int) < (i2 : Int)) : nm (Int.toNat (i2 : Int)) = nm (max i1 i2) := by
  rw [Int.toNat_natCast, Nat.max_eq_right (by omega)]
theorem nm_max2 {i1 i2 : Nat} (h : ¬(i1 : Int) < (i2 : Int)) : nm (Int.toNat (i1 : Int)) = nm (max i1 i2) := by
  rw [Int.toNat_natCast, Nat.max_eq_left (by omega)]
theorem nm_max {i1 i2 : Nat} : nm (Int.toNat (if (i1 : Int) < (i2 : Int) then (i2 : Int) else (i1 : Int))) = nm (max i1 i2) := by
  split
  · exact nm_max1 (by assumption)
  · exact nm_max2 (by assumption)
theorem ne_nil0 {prog : Program} {A : Around} {E : Value → Shared → Prop} {Q : Value → Shared → Prop} {x y : Addr} {n n' : Nat} (hu : A.units + 64 < cLine) (hx : s.heap.get? x = some { cls := .type "list", data := .seq #[] n })
    (hy : s.heap.get? y = some { cls := .type "list", data := .seq #[] n' }) (h : Q (.bool false) s) : wpAny (model prog w) A (compareOp .NotEq (.ref x) (.ref y)) Q E s :=
  ne_dataH (reads_list_at hx rfl rfl .nil) (reads_list_at hy rfl rfl .nil) (by rfl) (by rfl) hu h
theorem ne_nil1 {prog : Program} {A : Around} {E : Value → Shared → Prop} {Q : Value → Shared → Prop} {x y : Addr} {i1 : Int} {t1 : Tok} {n n' : Nat} (hu : A.units + 64 < cLine) (hx : s.heap.get? x = some { cls := .type "list", data := .seq #[.int i1 t1] n })
    (hy : s.heap.get? y = some { cls := .type "list", data := .seq #[] n' }) (h : Q (.bool true) s) : wpAny (model prog w) A (compareOp .NotEq (.ref x) (.ref y)) Q E s := by
  have sh : SeqAt.shaped (.list [.int i1]) = true := by simp [SeqAt.shaped, PyData.canLay0, PyData.canLayAll0, PyData.depth, PyData.depthAll]
  have ev : PyData.eqv (.list [.int i1]) (.list []) = false := by simp [PyData.eqv, PyData.eqvAll]
  exact ne_dataH (reads_list_at hx rfl rfl (.cons (.int _ _) .nil)) (reads_list_at hy rfl rfl .nil) sh (by rfl) hu (by rw [ev]; exact h)
theorem ne_nil2 {prog : Program} {A : Around} {E : Value → Shared → Prop} {Q : Value → Shared → Prop} {x y : Addr} {i1 i2 : Int} {t1 t2 : Tok} {n n' : Nat} (hu : A.units + 64 < cLine) (hx : s.heap.get? x = some { cls := .type "list", data := .seq #[.int i1 t1, .int i2 t2] n })
    (hy : s.heap.get? y = some { cls := .type "list", data := .seq #[] n' }) (h : Q (.bool true) s) : wpAny (model prog w) A (compareOp .NotEq (.ref x) (.ref y)) Q E s := by
  have sh : SeqAt.shaped (.list [.int i1, .int i2]) = true := by simp [SeqAt.shaped, PyData.canLay0, PyData.canLayAll0, PyData.depth, PyData.depthAll]
  have ev : PyData.eqv (.list [.int i1, .int i2]) (.list []) = false := by simp [PyData.eqv, PyData.eqvAll]
  exact ne_dataH (reads_list_at hx rfl rfl (.cons (.int _ _) (.cons (.int _ _) .nil))) (reads_list_at hy rfl rfl .nil) sh (by rfl) hu (by rw [ev]; exact h)
end
end
local macro_rules | `(tactic| walk_at "compareOp NotEq ref ref") => `(tactic| (k_here; k_dflt ((first | (refine' ne_nil0 ?hu ?ha ?hb ?_; (case ha => exact News.get (by k_asm) (by k_mem)); (case hb => exact News.get (by k_asm) (by k_mem))) | (refine' ne_nil1 ?hu ?ha ?hb ?_; (case ha => exact News.get (by k_asm) (by k_mem)); (case hb => exact News.get (by k_asm) (by k_mem))) | (refine' ne_nil2 ?hu ?ha ?hb ?_; (case ha => exact News.get (by k_asm) (by k_mem)); (case hb => exact News.get (by k_asm) (by k_mem)))); (case hu => k_units); k_whole)))
section
variable (w : World) (mean : ExcName → Option Value) (mg mb : Str → Option Value) (news : List (Addr × Obj)) (tk t1 t2 t3 : Tok) (kind : Str) (n : Int) (a b : Addr) (o : Obj)
variable (i j : Nat)
section
variable {w : World} {mean : ExcName → Option Value} {mg mb : Str → Option Value}
  {dp un : Nat} {gd : Option (List Code)} {cn : Str} {cs : Scope} {c a : Addr} {ccd : Value} {cl : List (Str × Addr)} {outer : List Env} {A₀ : Around} {base h₀ : Heap} {L : Addr} {m : Str → Option Value} {s : Shared} {news : List (Addr × Obj)} {Q E : Value → Shared → Prop}
  {o : Obj} {i j k : Nat} {n : Int} {tk t1 : Tok}
/-- the k-th statement of the def at f -/
noncomputable def stmtAt (w : World) (f : Addr) (k : Nat) : Stmt := match (KF w.params).lookup f with
  | some o => match o.data with
    | .func fd => match fd.body with
      | .stmts b => b.getD k (.Pass ⟨0, 0, 0, 0⟩)
      | _ => .Pass ⟨0, 0, 0, 0⟩
    | _ => .Pass ⟨0, 0, 0, 0⟩
  | none => .Pass ⟨0, 0, 0, 0⟩
/-- the scope of the def at f -/
noncomputable def scopeAt (w : World) (f : Addr) : Scope := match (KF w.params).lookup f with
  | some o => match o.data with
    | .func fd => fd.scope
    | _ => default
  | none => default
theorem Fr.two {h₀ h : Heap} {L : Addr} {m : Str → Option Value} {x1 x2 : Str} {v1 v2 : Value} (F : Fr h₀ L h m) (h1 : m x1 = some v1) (h2 : m x2 = some v2) : Fr h₀ L h (fun y => if y = x1 then some v1 else if y = x2 then some v2 else m y) := by
  have e : (fun y => if y = x1 then some v1 else if y = x2 then some v2 else m y) = m := funext fun y => by
    split
    · subst_vars; exact h1.symm
    · split
      · subst_vars; exact h2.symm
      · rfl
  rw [e]; exact F
end
end
section
variable (w : World) (mean : ExcName → Option Value) (mg mb : Str → Option Value) (news : List (Addr × Obj)) (tk t1 t2 t3 : Tok) (kind : Str) (n : Int) (a b : Addr) (o : Obj)
variable (i j : Nat)
section
variable {w : World} {mean : ExcName → Option Value} {mg mb : Str → Option Value}
  {dp un : Nat} {gd : Option (List Code)} {cn : Str} {cs : Scope} {c Lc : Addr} {ccd : Value} {cl : List (Str × Addr)} {outer : List Env} {A₀ : Around} {base h₀ : Heap} {L : Addr} {m : Str → Option Value} {s : Shared} {news : List (Addr × Obj)} {E : Value → Shared → Prop} {Q : Flow → Shared → Prop}
  {k : Nat} {n1 n2 : Int} {a1 a2 : Addr} {tk t1 t2 t3 t4 t5 : Tok}
theorem item_num {prog : Program} {A : Around} {E : Value → Shared → Prop} {value slice : Expr} {D : Addr} {vs : List Value} {kk : Nat} {j : Int} {u : Tok} {v : Value} {Q : Value → Shared → Prop} (hl : s.heap.get? D = some (listN vs kk)) (h0 : 0 ≤ j) (hhi : j < 2 ^ 63) (hx : vs[j.toNat]? = some v) (h : Q v s)
    (hs : subscripted slice false (.ref D) (.int j u) = operate [.ref D, .int j u] (getItem (.ref D) (.int j u)) := by with_unfolding_all rfl) :
    wpAny (model prog w) A (subscriptTail value slice (.ref D) (.int j u)) Q E s := by
  have hl' : s.heap.IsList D vs.toArray := ⟨_, hl, rfl, kk, rfl⟩
  exact tail_any hl'.typeIs PySem.F.slot_list_getitem.lookup (wpAny_getItem_list hl' h0 hhi (by simpa using hx) h) hs
end
end
local macro_rules | `(tactic| walk_at "subscriptTail") => `(tactic| (k_here; (with_reducible show wpAny _ _ (subscriptTail _ _ (Value.ref _) (Value.int _ _)) _ _ _); k_dflt (refine' item_num ?h ?h0 ?h1 ?hx ?_; (case h => exact News.get (by k_asm) (by k_mem)); (case h0 => decide); (case h1 => decide); (case hx => rfl); k_whole)))
section
variable (w : World) (mean : ExcName → Option Value) (mg mb : Str → Option Value) (news : List (Addr × Obj)) (tk t1 t2 t3 : Tok) (kind : Str) (n : Int) (a b : Addr) (o : Obj)
variable (i j : Nat)
section
variable {w : World} {mean : ExcName → Option Value} {mg mb : Str → Option Value}
  {dp un : Nat} {gd : Option (List Code)} {cn : Str} {cs : Scope} {c Lc : Addr} {ccd : Value} {cl : List (Str × Addr)} {outer : List Env} {A₀ : Around} {base h₀ : Heap} {L : Addr} {m : Str → Option Value} {s : Shared} {news : List (Addr × Obj)} {E : Value → Shared → Prop} {Q : Flow → Shared → Prop}
  {k : Nat} {n1 n2 : Int} {a1 a2 : Addr} {tk t1 t2 t3 t4 t5 : Tok}
theorem news_three {g h : Heap} {L : Addr} {p1 p2 p3 : Addr × Obj} {news big : List (Addr × Obj)} (N : News g L h big) (h1 : p1 ∈ big) (h2 : p2 ∈ big) (h4 : p3 ∈ big) (h3 : ∀ q ∈ news, q ∈ big) : News g L h (p1 :: p2 :: p3 :: news) := fun q hq => by
  rcases List.mem_cons.mp hq with rfl | hq
  · exact N _ h1
  rcases List.mem_cons.mp hq with rfl | hq
  · exact N _ h2
  rcases List.mem_cons.mp hq with rfl | hq
  · exact N _ h4
  · exact N _ (h3 q hq)
theorem if_due {Dn : Addr} {kk : Nat} {lw hg : Int} {o3 o4 : Obj} (hk : k < 10) (hB : Bnd k lw hg)
    (B : Below (ktrTop dp un gd cn cs Lc c ccd cl outer) base (envX cn cs Lc c ccd cl :: outer) h₀) (X : (KF w.params).In h₀) (T : Top Vw lo mean mg mb h₀) (hdp : dp + 40 < recursionLimit) (hu : un + 400 < cLine)
    (F : Fr h₀ L s.heap (fun y => if y = Str.ofString "numbers" then some (.ref Dn) else if y = Str.ofString "shared" then some (.str (nm k) t3) else m y))
    (N : News h₀ L s.heap news) (hD : (Dn, listN [.int n1 t1, .int n2 t2] kk) ∈ news) (h3 : (L + 1 + 1 + 1, o3) ∈ news) (h4 : (L + 1 + 1 + 1 + 1, o4) ∈ news) (d3 : o3.data = .cell (some (.int lw t4))) (d4 : o4.data = .cell (some (.int hg t5)))
    (hy : Room k n1 → Room k n2 → ∀ d x y u1 u2 u3 v1 v2 v3 h' tk, Fr h₀ L h' (fun y => if y = Str.ofString "due" then some (.ref d) else if y = Str.ofString "numbers" then some (.ref Dn) else if y = Str.ofString "shared" then some (.str (nm k) t3) else m y) →
      News h₀ L h' ((d, tupV [.ref x, .ref y]) :: (y, asO k n2 v1 v2 v3) :: (x, asO k n1 u1 u2 u3) :: news) → (∀ q ∈ news, q.1 < x) → x < y → y < d → Q .next { s with heap := h', toks := tk })
    (hn : ¬(Room k n1 ∧ Room k n2) → ∀ t h' tk, Fr h₀ L h' (fun y => if y = Str.ofString "due" then some (.str (Str.ofString "InexactError") t) else if y = Str.ofString "numbers" then some (.ref Dn) else if y = Str.ofString "shared" then some (.str (nm k) t3) else m y) → News h₀ L h' news → Q .next { s with heap := h', toks := tk })
    : wpAny (model Pr w) ((ktrTop dp un gd cn cs Lc c ccd cl outer).deeper (envOfC (Str.ofString "_law_pair_right") (scopeAt w 297) L 297 (.ref 296))) (exec (stmtAt w 297 5) (envOfC (Str.ofString "_law_pair_right") (scopeAt w 297) L 297 (.ref 296))) Q E s := by
  conv in (occs := *) stmtAt _ _ _ => all_goals whnf
  conv in (occs := *) scopeAt _ _ => all_goals whnf
  k_steps
  all_goals first
    | exact hn (fun z => hB.noLo (by assumption) z.1) _ _ _ (by assumption) (drop1 (drop1 (by assumption)))
    | exact hn (fun z => hB.noHi (by assumption) z.1) _ _ _ (by assumption) (drop1 (drop1 (by assumption)))
    | exact hn (fun z => hB.noLo (by assumption) z.2) _ _ _ (by assumption) (drop1 (drop1 (by assumption)))
    | exact hn (fun z => hB.noHi (by assumption) z.2) _ _ _ (by assumption) (drop1 (drop1 (by assumption)))
    | skip
  rename _ < _ ∧ _ < _ ∧ AllLt _ _ => z1
  rename _ < _ ∧ _ < _ ∧ _ < _ ∧ AllLt _ _ => z2
  rename _ < _ ∧ _ < _ ∧ _ < _ ∧ _ < _ ∧ AllLt _ _ => z3
  rename News _ _ _ _ => zN
  exact hy (hB.room (by omega) (by omega)) (hB.room (by omega) (by omega)) _ _ _ _ _ _ _ _ _ _ _ (by assumption)
    (news_three zN (.head _) (.tail _ (.head _)) (.tail _ (.tail _ (.head _))) (fun q hq => .tail _ (.tail _ (.tail _ (.tail _ (.tail _ hq)))))) (lt_allLt z1.2.2) z2.1 z3.1
end
end
section
variable (w : World) (mean : ExcName → Option Value) (mg mb : Str → Option Value) (news : List (Addr × Obj)) (tk t1 t2 t3 : Tok) (kind : Str) (n : Int) (a b : Addr) (o : Obj)
variable (i j : Nat)
section
variable {w : World} {mean : ExcName → Option Value} {mg mb : Str → Option Value}
  {dp un : Nat} {gd : Option (List Code)} {cn : Str} {cs : Scope} {c Lc : Addr} {ccd : Value} {cl : List (Str × Addr)} {outer : List Env} {A₀ : Around} {base h₀ : Heap} {L : Addr} {m : Str → Option Value} {s : Shared} {news : List (Addr × Obj)} {E : Value → Shared → Prop} {Q : Flow → Shared → Prop}
  {k : Nat} {n1 n2 : Int} {a1 a2 : Addr} {tk t1 t2 t3 t4 t5 : Tok}
theorem s0_kinds {i1 i2 : Nat} {o1 o2 c1 c2 : Obj} (V1 : VObj o1 i1 n1) (V2 : VObj o2 i2 n2) (h12 : a1 ≠ a2) (hN1 : (a1, o1) ∈ news) (hN2 : (a2, o2) ∈ news) (B : Below (ktrTop dp un gd cn cs Lc c ccd cl outer) base (envX cn cs Lc c ccd cl :: outer) h₀) (X : (KF w.params).In h₀) (T : Top Vw lo mean mg mb h₀) (hdp : dp + 40 < recursionLimit) (hu : un + 400 < cLine)
    (F : Fr h₀ L s.heap m) (N : News h₀ L s.heap news) (h1 : (L + 1, c1) ∈ news) (h2 : (L + 1 + 1, c2) ∈ news) (d1 : c1.data = .cell (some (.ref a1))) (d2 : c2.data = .cell (some (.ref a2)))
    (hQ : ∀ D t1 t2 kk h' tk, Fr h₀ L h' (fun y => if y = Str.ofString "kinds" then some (.ref D) else m y) → News h₀ L h' ((D, listN [.str (nm i1) t1, .str (nm i2) t2] kk) :: news) → LCg.Off1 D news → Q .next { s with heap := h', toks := tk })
    : wpAny (model Pr w) ((ktrTop dp un gd cn cs Lc c ccd cl outer).deeper (envOfC (Str.ofString "_law_pair_right") (scopeAt w 297) L 297 (.ref 296))) (exec (stmtAt w 297 0) (envOfC (Str.ofString "_law_pair_right") (scopeAt w 297) L 297 (.ref 296))) Q E s := by
  conv in (occs := *) stmtAt _ _ _ => all_goals whnf
  conv in (occs := *) scopeAt _ _ => all_goals whnf
  k_steps
  rename _ ∧ LCg.Off1 _ _ => zo
  exact hQ _ _ _ _ _ _ (by assumption) (drop2 (by assumption)) zo.2
theorem s1_nums {i1 i2 : Nat} {o1 o2 c1 c2 : Obj} (V1 : VObj o1 i1 n1) (V2 : VObj o2 i2 n2) (h12 : a1 ≠ a2) (hN1 : (a1, o1) ∈ news) (hN2 : (a2, o2) ∈ news) (B : Below (ktrTop dp un gd cn cs Lc c ccd cl outer) base (envX cn cs Lc c ccd cl :: outer) h₀) (X : (KF w.params).In h₀) (T : Top Vw lo mean mg mb h₀) (hdp : dp + 40 < recursionLimit) (hu : un + 400 < cLine)
    (F : Fr h₀ L s.heap m) (N : News h₀ L s.heap news) (h1 : (L + 1, c1) ∈ news) (h2 : (L + 1 + 1, c2) ∈ news) (d1 : c1.data = .cell (some (.ref a1))) (d2 : c2.data = .cell (some (.ref a2)))
    (hQ : ∀ D t1 t2 kk h' tk, Fr h₀ L h' (fun y => if y = Str.ofString "numbers" then some (.ref D) else m y) → News h₀ L h' ((D, listN [.int n1 t1, .int n2 t2] kk) :: news) → LCg.Off1 D news → Q .next { s with heap := h', toks := tk })
    : wpAny (model Pr w) ((ktrTop dp un gd cn cs Lc c ccd cl outer).deeper (envOfC (Str.ofString "_law_pair_right") (scopeAt w 297) L 297 (.ref 296))) (exec (stmtAt w 297 1) (envOfC (Str.ofString "_law_pair_right") (scopeAt w 297) L 297 (.ref 296))) Q E s := by
  conv in (occs := *) stmtAt _ _ _ => all_goals whnf
  conv in (occs := *) scopeAt _ _ => all_goals whnf
  k_steps
  rename _ ∧ LCg.Off1 _ _ => zo
  exact hQ _ _ _ _ _ _ (by assumption) (drop2 (by assumption)) zo.2
theorem s2_if {i1 i2 : Nat} {o1 o2 c1 c2 : Obj} {Dn Dk : Addr} {kk kk' : Nat} (V1 : VObj o1 i1 n1) (V2 : VObj o2 i2 n2) (hN1 : (a1, o1) ∈ news) (hN2 : (a2, o2) ∈ news) (B : Below (ktrTop dp un gd cn cs Lc c ccd cl outer) base (envX cn cs Lc c ccd cl :: outer) h₀) (X : (KF w.params).In h₀) (T : Top Vw lo mean mg mb h₀) (hdp : dp + 40 < recursionLimit) (hu : un + 400 < cLine)
    (F : Fr h₀ L s.heap (fun y => if y = Str.ofString "numbers" then some (.ref Dn) else if y = Str.ofString "kinds" then some (.ref Dk) else m y)) (N : News h₀ L s.heap news) (h1 : (L + 1, c1) ∈ news) (h2 : (L + 1 + 1, c2) ∈ news) (d1 : c1.data = .cell (some (.ref a1))) (d2 : c2.data = .cell (some (.ref a2)))
    (hD : (Dn, listN [.int n1 t1, .int n2 t2] kk) ∈ news) (hDk : (Dk, listN [.str (nm i1) t3, .str (nm i2) t4] kk') ∈ news)
    (hQ : ∀ h' tk, Fr h₀ L h' (fun y => if y = Str.ofString "numbers" then some (.ref Dn) else if y = Str.ofString "kinds" then some (.ref Dk) else m y) → News h₀ L h' news → Q .next { s with heap := h', toks := tk })
    : wpAny (model Pr w) ((ktrTop dp un gd cn cs Lc c ccd cl outer).deeper (envOfC (Str.ofString "_law_pair_right") (scopeAt w 297) L 297 (.ref 296))) (exec (stmtAt w 297 2) (envOfC (Str.ofString "_law_pair_right") (scopeAt w 297) L 297 (.ref 296))) Q E s := by
  conv in (occs := *) stmtAt _ _ _ => all_goals whnf
  conv in (occs := *) scopeAt _ _ => all_goals whnf
  k_steps
  exact hQ _ _ (by assumption) (drop1 (drop1 (by assumption)))
theorem s3_shared {i1 i2 : Nat} {Dk : Addr} {kk' : Nat} (b1 : i1 < 10) (b2 : i2 < 10) (b3 : max i1 i2 < 10) (B : Below (ktrTop dp un gd cn cs Lc c ccd cl outer) base (envX cn cs Lc c ccd cl :: outer) h₀) (X : (KF w.params).In h₀) (T : Top Vw lo mean mg mb h₀) (hdp : dp + 40 < recursionLimit) (hu : un + 400 < cLine)
    (F : Fr h₀ L s.heap (fun y => if y = Str.ofString "kinds" then some (.ref Dk) else m y)) (N : News h₀ L s.heap news) (hDk : (Dk, listN [.str (nm i1) t3, .str (nm i2) t4] kk') ∈ news)
    (hQ : ∀ t h' tk, Fr h₀ L h' (fun y => if y = Str.ofString "shared" then some (.str (nm (max i1 i2)) t) else if y = Str.ofString "kinds" then some (.ref Dk) else m y) → News h₀ L h' news → Q .next { s with heap := h', toks := tk })
    : wpAny (model Pr w) ((ktrTop dp un gd cn cs Lc c ccd cl outer).deeper (envOfC (Str.ofString "_law_pair_right") (scopeAt w 297) L 297 (.ref 296))) (exec (stmtAt w 297 3) (envOfC (Str.ofString "_law_pair_right") (scopeAt w 297) L 297 (.ref 296))) Q E s := by
  conv in (occs := *) stmtAt _ _ _ => all_goals whnf
  conv in (occs := *) scopeAt _ _ => all_goals whnf
  k_steps
  exact hQ _ _ _ (by assumption) (by assumption)
theorem s4_bnd {o3 o4 : Obj} {v3 v4 : Option Value} (hk : k < 10) (B : Below (ktrTop dp un gd cn cs Lc c ccd cl outer) base (envX cn cs Lc c ccd cl :: outer) h₀) (X : (KF w.params).In h₀) (T : Top Vw lo mean mg mb h₀) (hdp : dp + 40 < recursionLimit) (hu : un + 400 < cLine)
    (F : Fr h₀ L s.heap (fun y => if y = Str.ofString "shared" then some (.str (nm k) t3) else m y)) (N : News h₀ L s.heap ((L + 1 + 1 + 1 + 1, o4) :: (L + 1 + 1 + 1, o3) :: news)) (d3 : o3.data = .cell v3) (d4 : o4.data = .cell v4)
    (n3 : ∀ q ∈ news, q.1 ≠ L + 1 + 1 + 1) (n4 : ∀ q ∈ news, q.1 ≠ L + 1 + 1 + 1 + 1)
    (hQ : ∀ lw hg o3' o4' t4 t5 h' tk, Bnd k lw hg → Fr h₀ L h' (fun y => if y = Str.ofString "shared" then some (.str (nm k) t3) else m y) → News h₀ L h' ((L + 1 + 1 + 1 + 1, o4') :: (L + 1 + 1 + 1, o3') :: news) → o3'.data = .cell (some (.int lw t4)) → o4'.data = .cell (some (.int hg t5)) → Q .next { s with heap := h', toks := tk })
    : wpAny (model Pr w) ((ktrTop dp un gd cn cs Lc c ccd cl outer).deeper (envOfC (Str.ofString "_law_pair_right") (scopeAt w 297) L 297 (.ref 296))) (exec (stmtAt w 297 4) (envOfC (Str.ofString "_law_pair_right") (scopeAt w 297) L 297 (.ref 296))) Q E s := by
  conv in (occs := *) stmtAt _ _ _ => all_goals whnf
  conv in (occs := *) scopeAt _ _ => all_goals whnf
  k_steps
  exact hQ _ _ _ _ _ _ _ _ (by assumption) (by assumption) (drop1 (by assumption)) (by assumption) (by assumption)
end
end
section
section
variable {w : World} {mean : ExcName → Option Value} {mg mb : Str → Option Value}
  {dp un : Nat} {gd : Option (List Code)} {cn : Str} {cs : Scope} {c Lc : Addr} {ccd : Value} {cl : List (Str × Addr)} {outer : List Env} {A₀ : Around} {base h₀ : Heap} {L : Addr} {m : Str → Option Value} {s : Shared} {news : List (Addr × Obj)} {E : Value → Shared → Prop} {Q : Value → Shared → Prop}
  {i : Nat} {n : Int} {n1 n2 : Int} {a1 a2 : Addr} {tk t1 t2 t3 t4 t5 : Tok}
variable {fa : Addr} {cd : Value}
theorem bnd_le {lw hg : Int} (h : Bnd i lw hg) (hi : i < 10) : lw ≤ 0 ∧ 1 ≤ hg := by
  have e := low_le i hi
  rw [← h.lo_, ← h.hi_] at e
  exact e
theorem bounds_v (hi : i < 10) (B : Below A₀ base outer h₀) (F : Fr h₀ L s.heap m) (X : (KF w.params).In h₀) (N : News h₀ L s.heap news) (T : Top Vw lo mean mg mb h₀) (hk : cs.kind = .function)
    (hd' : dp + 12 < recursionLimit) (hu : un + 96 < cLine) (h : ∀ lw hg, Bnd i lw hg → lw ≤ 0 → 1 ≤ hg → ∀ x h' tk t1 t2, Fr h₀ L h' m → News h₀ L h' ((x, pairO lw t1 hg t2) :: news) → (∀ q ∈ news, q.1 < x) → Q (.ref x) { s with heap := h', toks := tk }) :
    wpAny (model Pr w) (ktrTop dp un gd cn cs L c ccd cl outer) (call (.ref 264) [.str (nm i) tk]) Q E s :=
  bounds_w hi B F X N T hk hd' hu fun lw hg b => h lw hg b (bnd_le b hi).1 (bnd_le b hi).2
end
end
local macro_rules | `(tactic| walk_at "call ref") => `(tactic| (k_here; (with_reducible show wpAny _ _ (call (Value.ref 264) [Value.str (nm _) _]) _ _ _); k_dflt (refine' bounds_v ?hi ?B ?F ?X ?N ?T ?hk ?dp ?un ?_; walk_at "use_args"; (case hi => with_reducible assumption); k_whole; intro lw' hg' hB' p0' p1' x' h' tk' t1' t2' F' N' l1; (try dsimp only at N'); (try k_lt l1); (try k_sweep))))
section
section
variable {w : World} {mean : ExcName → Option Value} {mg mb : Str → Option Value}
  {dp un : Nat} {gd : Option (List Code)} {cn : Str} {cs : Scope} {c Lc : Addr} {ccd : Value} {cl : List (Str × Addr)} {outer : List Env} {A₀ : Around} {base h₀ : Heap} {L : Addr} {m : Str → Option Value} {s : Shared} {news : List (Addr × Obj)} {E : Value → Shared → Prop} {Q : Value → Shared → Prop}
  {i : Nat} {n : Int} {n1 n2 : Int} {a1 a2 : Addr} {tk t1 t2 t3 t4 t5 : Tok}
variable {fa : Addr} {cd : Value}
theorem led_9 (n : Int) : ledZ 9 n = n := rfl
theorem led_i : ∀ i, i < 9 → ∀ n, ledZ i n = (n - lowZ i).fmod (highZ i - lowZ i + 1) + lowZ i
  | 0, _, _ => rfl | 1, _, _ => rfl | 2, _, _ => rfl | 3, _, _ => rfl | 4, _, _ => rfl | 5, _, _ => rfl | 6, _, _ => rfl | 7, _, _ => rfl | 8, _, _ => rfl
  | n + 9, h, _ => absurd h (by omega)
theorem led_c (w : World) (mean : ExcName → Option Value) (mg mb : Str → Option Value) (tk t1 : Tok) (n : Int) (i : Nat) (h0 : 0 < i) (hi : i < 10) : CtV w mean mg mb 24 200 292 [.str (nm i) tk, .int n t1] (fun t => .int (ledZ i n) t) := by
  intro dp un gd cn cs a' ccd cl outer A₀ base h₀ L m s news Q E B F X N T hk hdp hu hret; refine wpAny_call ?_; (k_dflt cell_enter)
  k_steps
  · have e9 : i = 9 := nm_inj hi (by decide) (eq_of_beq (by assumption : (nm i == Str.ofString "BigInt") = true))
    subst e9
    exact cb_retI hret rfl (by assumption) (drop1 (by assumption))
  · rename (nm i == Str.ofString "BigInt") = false => ng
    have h9 : i < 9 := by
      by_cases e : i = 9
      · subst e
        exact absurd ng (by decide)
      · omega
    rename Bnd _ _ _ => hB
    exact cb_retI hret (by rw [hB.lo_, hB.hi_]; exact (led_i i h9 n).symm) (by assumption) (drop1 (by assumption))
end
end
section
variable (w : World) (mean : ExcName → Option Value) (mg mb : Str → Option Value) (news : List (Addr × Obj)) (tk t1 t2 t3 : Tok) (kind : Str) (n : Int) (a b : Addr) (o : Obj)
variable (i j : Nat)
section
variable {w : World} {mean : ExcName → Option Value} {mg mb : Str → Option Value}
  {dp un : Nat} {gd : Option (List Code)} {cn : Str} {cs : Scope} {c Lc : Addr} {ccd : Value} {cl : List (Str × Addr)} {outer : List Env} {A₀ : Around} {base h₀ : Heap} {L : Addr} {m : Str → Option Value} {s : Shared} {news : List (Addr × Obj)} {E : Value → Shared → Prop} {Q : Flow → Shared → Prop}
  {k : Nat} {n1 n2 : Int} {a1 a2 : Addr} {tk t1 t2 t3 t4 t5 : Tok}
theorem wrap_s {n h f : Int} (e2 : f = 2 * h) (h0 : 0 < h) : (n - (-h)).fmod (h - 1 - (-h) + 1) + (-h) = if h ≤ n.fmod f then n.fmod f - f else n.fmod f := by
  have e3 : h - 1 - (-h) + 1 = f := by omega
  rw [e3, Int.fmod_eq_emod_of_nonneg _ (by omega), Int.fmod_eq_emod_of_nonneg _ (by omega)]
  have a1 := Int.emod_nonneg n (b := f) (by omega)
  have a2 := Int.emod_lt_of_pos n (b := f) (by omega)
  have e4 : (n - -h) % f = (n % f + h) % f := by rw [show n - -h = n + h by omega, ← Int.emod_add_emod]
  rw [e4]
  split
  · have : (n % f + h) % f = n % f + h - f := by
      have : n % f + h = (n % f + h - f) + f := by omega
      rw [this, Int.add_emod_right, Int.emod_eq_of_lt (by omega) (by omega)]
      omega
    omega
  · rw [Int.emod_eq_of_lt (by omega) (by omega)]; omega
theorem wrap_u {n f : Int} (h0 : 0 < f) : (n - 0).fmod (f - 1 - 0 + 1) + 0 = n.fmod f := by
  rw [show f - 1 - 0 + 1 = f by omega, show n - 0 = n by omega, Int.add_zero]
theorem wrap_led : ∀ i, 0 < i → i < 10 → ∀ n, ledZ i n = wrapZ i n
  | 0, h, _, _ => absurd h (by omega)
  | 1, _, _, n => wrap_s (by decide) (by decide)
  | 2, _, _, n => wrap_u (by decide)
  | 3, _, _, n => wrap_s (by decide) (by decide)
  | 4, _, _, n => wrap_u (by decide)
  | 5, _, _, n => wrap_s (by decide) (by decide)
  | 6, _, _, n => wrap_u (by decide)
  | 7, _, _, n => wrap_s (by decide) (by decide)
  | 8, _, _, n => wrap_u (by decide)
  | 9, _, _, n => rfl
  | n + 10, _, h, _ => absurd h (by omega)
section
variable {A₀ : Around} {Q : Value → Shared → Prop} {a : Addr} {i : Nat} {n : Int}
theorem led_w (hi : 0 < i) (hj : i < 10) (B : Below A₀ base outer h₀) (F : Fr h₀ L s.heap m) (X : (KF w.params).In h₀) (N : News h₀ L s.heap news) (T : Top Vw lo mean mg mb h₀) (hk : cs.kind = .function)
    (hd' : dp + 24 < recursionLimit) (hu : un + 200 < cLine) (h : ∀ (t1 : Tok) (h' : Heap) (tk : Nat), Fr h₀ L h' m → News h₀ L h' news → Q (.int (wrapZ i n) t1) { s with heap := h', toks := tk }) :
    wpAny (model Pr w) (ktrTop dp un gd cn cs L a ccd cl outer) (call (.ref 292) [.str (nm i) tk, .int n t1]) Q E s :=
  use_V (led_c w mean mg mb tk t1 n i hi hj) B F X N T hk hd' hu fun t h' tk' F' N' => by
    have := h t h' tk' F' N'
    rwa [← wrap_led i hi hj n] at this
theorem item_ord {prog : Program} {A : Around} {value slice : Expr} {D : Addr} {t1 t2 t3 u : Tok} {kk : Nat} (hl : s.heap.get? D = some { cls := .type "list", data := .seq #[.int (-1) t1, .int 0 t2, .int 1 t3] kk })
    (h : ∀ t, Q (.int ((if n1 > n2 then 1 else 0) - (if n1 < n2 then 1 else 0)) t) s)
    (hs : ∀ j, subscripted slice false (.ref D) (.int j u) = operate [.ref D, .int j u] (getItem (.ref D) (.int j u)) := by intro j; with_unfolding_all rfl) :
    wpAny (model prog w) A (subscriptTail value slice (.ref D) (.int (1 + (if decide (n2 < n1) = true then 1 else 0) - (if decide (n1 < n2) = true then 1 else 0)) u)) Q E s := by
  have hl' : s.heap.get? D = some (listN [.int (-1) t1, .int 0 t2, .int 1 t3] kk) := hl
  rcases Int.lt_trichotomy n1 n2 with q | q | q
  · have e1 : (1 + (if decide (n2 < n1) = true then 1 else 0) - (if decide (n1 < n2) = true then 1 else 0) : Int) = 0 := by simp [q]; omega
    have e2 : ((if n1 > n2 then 1 else 0) - (if n1 < n2 then 1 else 0) : Int) = -1 := by simp [q]; omega
    rw [e1]
    rw [e2] at h
    exact item_num hl' (by decide) (by decide) rfl (h _) (hs _)
  · have e1 : (1 + (if decide (n2 < n1) = true then 1 else 0) - (if decide (n1 < n2) = true then 1 else 0) : Int) = 1 := by subst q; simp
    have e2 : ((if n1 > n2 then 1 else 0) - (if n1 < n2 then 1 else 0) : Int) = 0 := by subst q; simp
    rw [e1]
    rw [e2] at h
    exact item_num hl' (by decide) (by decide) rfl (h _) (hs _)
  · have e1 : (1 + (if decide (n2 < n1) = true then 1 else 0) - (if decide (n1 < n2) = true then 1 else 0) : Int) = 2 := by simp [q]; omega
    have e2 : ((if n1 > n2 then 1 else 0) - (if n1 < n2 then 1 else 0) : Int) = 1 := by simp [q]; omega
    rw [e1]
    rw [e2] at h
    exact item_num hl' (by decide) (by decide) rfl (h _) (hs _)
end
end
end
local macro_rules | `(tactic| walk_at "subscriptTail") => `(tactic| (k_here; (with_reducible show wpAny _ _ (subscriptTail _ _ (Value.ref _) (Value.int (_ - _) _)) _ _ _); k_dflt (refine' item_ord ?h ?_; (case h => exact News.get (by k_asm) (by k_mem)); k_whole; intro t')))
section
variable (w : World) (mean : ExcName → Option Value) (mg mb : Str → Option Value) (news : List (Addr × Obj)) (tk t1 t2 t3 : Tok) (kind : Str) (n : Int) (a b : Addr) (o : Obj)
variable (i j : Nat)
section
variable {w : World} {mean : ExcName → Option Value} {mg mb : Str → Option Value}
  {dp un : Nat} {gd : Option (List Code)} {cn : Str} {cs : Scope} {c Lc : Addr} {ccd : Value} {cl : List (Str × Addr)} {outer : List Env} {A₀ : Around} {base h₀ : Heap} {L : Addr} {m : Str → Option Value} {s : Shared} {news : List (Addr × Obj)} {E : Value → Shared → Prop} {Q : Flow → Shared → Prop}
  {k : Nat} {n1 n2 : Int} {a1 a2 : Addr} {tk t1 t2 t3 t4 t5 : Tok}
end
end
local macro_rules | `(tactic| walk_at "call ref") => `(tactic| (k_here; k_dflt (refine' led_w ?hi ?hj ?B ?F ?X ?N ?T ?hk ?dp ?un ?_; walk_at "use_args"; (case hi => with_reducible assumption); (case hj => with_reducible assumption); k_whole; intro t1' h' tk' F' N'; (try dsimp only at N'); (try k_sweep))))
section
variable (w : World) (mean : ExcName → Option Value) (mg mb : Str → Option Value) (news : List (Addr × Obj)) (tk t1 t2 t3 : Tok) (kind : Str) (n : Int) (a b : Addr) (o : Obj)
variable (i j : Nat)
section
variable {w : World} {mean : ExcName → Option Value} {mg mb : Str → Option Value}
  {dp un : Nat} {gd : Option (List Code)} {cn : Str} {cs : Scope} {c Lc : Addr} {ccd : Value} {cl : List (Str × Addr)} {outer : List Env} {A₀ : Around} {base h₀ : Heap} {L : Addr} {m : Str → Option Value} {s : Shared} {news : List (Addr × Obj)} {E : Value → Shared → Prop} {Q : Flow → Shared → Prop}
  {k : Nat} {n1 n2 : Int} {a1 a2 : Addr} {tk t1 t2 t3 t4 t5 : Tok}
end
end
local macro_rules | `(tactic| walk_at "call ref") => `(tactic| (k_here; k_dflt (refine' order_c ?V1 ?hN1 ?V2 ?hN2 ?B ?F ?X ?N ?T ?hk ?dp ?un ?_; walk_at "use_args"; (case hN1 => k_mem); (case hN2 => k_mem); (case V1 => assumption); (case V2 => assumption); k_whole; intro t1' h' tk' F' N'; (try dsimp only at N'); (try k_sweep))))
section
variable (w : World) (mean : ExcName → Option Value) (mg mb : Str → Option Value) (news : List (Addr × Obj)) (tk t1 t2 t3 : Tok) (kind : Str) (n : Int) (a b : Addr) (o : Obj)
variable (i j : Nat)
section
variable {w : World} {mean : ExcName → Option Value} {mg mb : Str → Option Value}
  {dp un : Nat} {gd : Option (List Code)} {cn : Str} {cs : Scope} {c Lc : Addr} {ccd : Value} {cl : List (Str × Addr)} {outer : List Env} {A₀ : Around} {base h₀ : Heap} {L : Addr} {m : Str → Option Value} {s : Shared} {news : List (Addr × Obj)} {E : Value → Shared → Prop} {Q : Flow → Shared → Prop}
  {k : Nat} {n1 n2 : Int} {a1 a2 : Addr} {tk t1 t2 t3 t4 t5 : Tok}
end
end
local macro_rules | `(tactic| walk_at "call ref") => `(tactic| (k_here; k_dflt (refine' ledboth_c ?V1 ?hN1 ?V2 ?hN2 ?hb1 ?hb2 ?B ?F ?X ?N ?T ?hk ?dp ?un ?_; walk_at "use_args"; (case hN1 => k_mem); (case hN2 => k_mem); (case V1 => assumption); (case V2 => assumption); (case hb1 => assumption); (case hb2 => assumption); k_whole; intro g' eg' z' y' x' h' tk' t1' t2' t3' u1' u2' u3' F' N'; (try dsimp only at N'); subst eg'; (try k_sweep))))
section
variable (w : World) (mean : ExcName → Option Value) (mg mb : Str → Option Value) (news : List (Addr × Obj)) (tk t1 t2 t3 : Tok) (kind : Str) (n : Int) (a b : Addr) (o : Obj)
variable (i j : Nat)
section
variable {w : World} {mean : ExcName → Option Value} {mg mb : Str → Option Value}
  {dp un : Nat} {gd : Option (List Code)} {cn : Str} {cs : Scope} {c Lc : Addr} {ccd : Value} {cl : List (Str × Addr)} {outer : List Env} {A₀ : Around} {base h₀ : Heap} {L : Addr} {m : Str → Option Value} {s : Shared} {news : List (Addr × Obj)} {E : Value → Shared → Prop} {Q : Flow → Shared → Prop}
  {k : Nat} {n1 n2 : Int} {a1 a2 : Addr} {tk t1 t2 t3 t4 t5 : Tok}
theorem led_pos {k : Nat} (hk : k < 10) : 0 < ledK k ∧ ledK k < 10 := by
  unfold ledK
  split <;> omega
theorem s7_goal (hk : k < 10) (B : Below (ktrTop dp un gd cn cs Lc c ccd cl outer) base (envX cn cs Lc c ccd cl :: outer) h₀) (X : (KF w.params).In h₀) (T : Top Vw lo mean mg mb h₀) (hdp : dp + 40 < recursionLimit) (hu : un + 400 < cLine)
    (F : Fr h₀ L s.heap (fun y => if y = Str.ofString "shared" then some (.str (nm k) t3) else m y)) (N : News h₀ L s.heap news)
    (hQ : ∀ t h' tk, Fr h₀ L h' (fun y => if y = Str.ofString "goal" then some (.str (nm (ledK k)) t) else if y = Str.ofString "shared" then some (.str (nm k) t3) else m y) → News h₀ L h' news → Q .next { s with heap := h', toks := tk })
    : wpAny (model Pr w) ((ktrTop dp un gd cn cs Lc c ccd cl outer).deeper (envOfC (Str.ofString "_law_pair_right") (scopeAt w 297) L 297 (.ref 296))) (exec (stmtAt w 297 7) (envOfC (Str.ofString "_law_pair_right") (scopeAt w 297) L 297 (.ref 296))) Q E s := by
  conv in (occs := *) stmtAt _ _ _ => all_goals whnf
  conv in (occs := *) scopeAt _ _ => all_goals whnf
  k_steps
  · exact hQ _ _ _ (by rw [ledK_0 hk (by assumption)]; assumption) (by assumption)
  · exact hQ _ _ _ (by rw [ledK_1 (by assumption)]; assumption) (by assumption)
theorem s8_led {Dn g : Addr} {kk : Nat} {i1 i2 : Nat} {o1 o2 c1 c2 : Obj} (hk : max i1 i2 < 10) (V1 : VObj o1 i1 n1) (V2 : VObj o2 i2 n2) (hb1 : BigOK n1) (hb2 : BigOK n2) (hN1 : (a1, o1) ∈ news) (hN2 : (a2, o2) ∈ news) (B : Below (ktrTop dp un gd cn cs Lc c ccd cl outer) base (envX cn cs Lc c ccd cl :: outer) h₀) (X : (KF w.params).In h₀) (T : Top Vw lo mean mg mb h₀) (hdp : dp + 40 < recursionLimit) (hu : un + 400 < cLine)
    (F : Fr h₀ L s.heap (fun y => if y = Str.ofString "numbers" then some (.ref Dn) else if y = Str.ofString "goal" then some (.str (nm (ledK (max i1 i2))) t3) else m y)) (N : News h₀ L s.heap news)
    (hD : (Dn, listN [.int n1 t1, .int n2 t2] kk) ∈ news) (h1 : (L + 1, c1) ∈ news) (h2 : (L + 1 + 1, c2) ∈ news) (d1 : c1.data = .cell (some (.ref a1))) (d2 : c2.data = .cell (some (.ref a2)))
    (hQ : ∀ h' tk, Fr h₀ L h' (fun y => if y = Str.ofString "numbers" then some (.ref Dn) else if y = Str.ofString "goal" then some (.str (nm (ledK (max i1 i2))) t3) else m y) → News h₀ L h' news → Q .next { s with heap := h', toks := tk })
    : wpAny (model Pr w) ((ktrTop dp un gd cn cs Lc c ccd cl outer).deeper (envOfC (Str.ofString "_law_pair_right") (scopeAt w 297) L 297 (.ref 296))) (exec (stmtAt w 297 8) (envOfC (Str.ofString "_law_pair_right") (scopeAt w 297) L 297 (.ref 296))) Q E s := by
  have p0 := (led_pos hk).1
  have p1 := (led_pos hk).2
  conv in (occs := *) stmtAt _ _ _ => all_goals whnf
  conv in (occs := *) scopeAt _ _ => all_goals whnf
  k_steps
  exact hQ _ _ (by assumption) (drop1 (drop1 (drop1 (drop1 (drop1 (drop1 (by assumption)))))))
theorem s9_ord {Dn g : Addr} {kk : Nat} {i1 i2 : Nat} {o1 o2 c1 c2 : Obj} (V1 : VObj o1 i1 n1) (V2 : VObj o2 i2 n2) (hN1 : (a1, o1) ∈ news) (hN2 : (a2, o2) ∈ news) (B : Below (ktrTop dp un gd cn cs Lc c ccd cl outer) base (envX cn cs Lc c ccd cl :: outer) h₀) (X : (KF w.params).In h₀) (T : Top Vw lo mean mg mb h₀) (hdp : dp + 40 < recursionLimit) (hu : un + 400 < cLine)
    (F : Fr h₀ L s.heap (fun y => if y = Str.ofString "numbers" then some (.ref Dn) else m y)) (N : News h₀ L s.heap news)
    (hD : (Dn, listN [.int n1 t1, .int n2 t2] kk) ∈ news) (h1 : (L + 1, c1) ∈ news) (h2 : (L + 1 + 1, c2) ∈ news) (d1 : c1.data = .cell (some (.ref a1))) (d2 : c2.data = .cell (some (.ref a2)))
    (hQ : ∀ h' tk, Fr h₀ L h' (fun y => if y = Str.ofString "numbers" then some (.ref Dn) else m y) → News h₀ L h' news → Q (.ret (.bool true)) { s with heap := h', toks := tk })
    : wpAny (model Pr w) ((ktrTop dp un gd cn cs Lc c ccd cl outer).deeper (envOfC (Str.ofString "_law_pair_right") (scopeAt w 297) L 297 (.ref 296))) (exec (stmtAt w 297 9) (envOfC (Str.ofString "_law_pair_right") (scopeAt w 297) L 297 (.ref 296))) Q E s := by
  conv in (occs := *) stmtAt _ _ _ => all_goals whnf
  conv in (occs := *) scopeAt _ _ => all_goals whnf
  k_steps
  rw [beq_self_eq_true]
  exact hQ _ _ (by assumption) (drop1 (by assumption))
end
end
section
variable (w : World) (mean : ExcName → Option Value) (mg mb : Str → Option Value) (news : List (Addr × Obj)) (tk t1 t2 t3 : Tok) (kind : Str) (n : Int) (a b : Addr) (o : Obj)
variable (i j : Nat)
section
variable {w : World} {mean : ExcName → Option Value} {mg mb : Str → Option Value}
  {dp un : Nat} {gd : Option (List Code)} {cn : Str} {cs : Scope} {c Lc : Addr} {ccd : Value} {cl : List (Str × Addr)} {outer : List Env} {A₀ : Around} {base h₀ : Heap} {L : Addr} {m : Str → Option Value} {s : Shared} {news : List (Addr × Obj)} {E : Value → Shared → Prop} {Q : Flow → Shared → Prop}
  {k : Nat} {n1 n2 : Int} {a1 a2 : Addr} {tk t1 t2 t3 t4 t5 : Tok}
section
variable {Q : Value → Shared → Prop} {o1 o2 : Obj} {i1 i2 : Nat}
theorem both_yes (r1 : Room (max i1 i2) n1) (r2 : Room (max i1 i2) n2) (V1 : VObj o1 i1 n1) (hN1 : (a1, o1) ∈ news) (V2 : VObj o2 i2 n2) (hN2 : (a2, o2) ∈ news) (hb1 : BigOK n1) (hb2 : BigOK n2)
    (B : Below A₀ base outer h₀) (F : Fr h₀ L s.heap m) (X : (KF w.params).In h₀) (N : News h₀ L s.heap news) (T : Top Vw lo mean mg mb h₀) (hk : cs.kind = .function)
     (hdp : dp + 36 < recursionLimit) (hu : un + 300 < cLine)
     (hret : ∀ z y x h' tk t1 t2 t3 u1 u2 u3, Fr h₀ L h' m → News h₀ L h' ((z, tupV [.ref x, .ref y]) :: (y, asO (max i1 i2) n2 u1 u2 u3) :: (x, asO (max i1 i2) n1 t1 t2 t3) :: news) → Q (.ref z) { s with heap := h', toks := tk })
     : wpAny (model Pr w) (ktrTop dp un gd cn cs L c ccd cl outer) (call (.ref 230) [.ref a1, .ref a2]) Q E s :=
  both_c V1 hN1 V2 hN2 hb1 hb2 B F X N T hk hdp hu (fun _ _ => hret) fun no => absurd ⟨r1, r2⟩ no
theorem both_no (r : ¬(Room (max i1 i2) n1 ∧ Room (max i1 i2) n2)) (V1 : VObj o1 i1 n1) (hN1 : (a1, o1) ∈ news) (V2 : VObj o2 i2 n2) (hN2 : (a2, o2) ∈ news) (hb1 : BigOK n1) (hb2 : BigOK n2)
    (B : Below A₀ base outer h₀) (F : Fr h₀ L s.heap m) (X : (KF w.params).In h₀) (N : News h₀ L s.heap news) (T : Top Vw lo mean mg mb h₀) (hk : cs.kind = .function)
     (hdp : dp + 36 < recursionLimit) (hu : un + 300 < cLine)
     (hexc : FlyTo base h₀ L m (envX cn cs L c ccd cl :: outer) news E s)
     : wpAny (model Pr w) (ktrTop dp un gd cn cs L c ccd cl outer) (call (.ref 230) [.ref a1, .ref a2]) Q E s :=
  both_c V1 hN1 V2 hN2 hb1 hb2 B F X N T hk hdp hu (fun z1 z2 => absurd ⟨z1, z2⟩ r) fun _ => hexc
end
end
end
local macro_rules | `(tactic| walk_at "call ref") => `(tactic| (k_here; k_dflt (refine' both_yes ?r1 ?r2 ?V1 ?hN1 ?V2 ?hN2 ?hb1 ?hb2 ?B ?F ?X ?N ?T ?hk ?dp ?un ?_; walk_at "use_args"; (case hN1 => k_mem); (case hN2 => k_mem); (case V1 => assumption); (case V2 => assumption); (case r1 => with_reducible assumption); (case r2 => with_reducible assumption); (case hb1 => assumption); (case hb2 => assumption); k_whole; intro z' y' x' h' tk' t1' t2' t3' u1' u2' u3' F' N'; (try dsimp only at N'); (try k_sweep))))
section
variable (w : World) (mean : ExcName → Option Value) (mg mb : Str → Option Value) (news : List (Addr × Obj)) (tk t1 t2 t3 : Tok) (kind : Str) (n : Int) (a b : Addr) (o : Obj)
variable (i j : Nat)
section
variable {w : World} {mean : ExcName → Option Value} {mg mb : Str → Option Value}
  {dp un : Nat} {gd : Option (List Code)} {cn : Str} {cs : Scope} {c Lc : Addr} {ccd : Value} {cl : List (Str × Addr)} {outer : List Env} {A₀ : Around} {base h₀ : Heap} {L : Addr} {m : Str → Option Value} {s : Shared} {news : List (Addr × Obj)} {E : Value → Shared → Prop} {Q : Flow → Shared → Prop}
  {k : Nat} {n1 n2 : Int} {a1 a2 : Addr} {tk t1 t2 t3 t4 t5 : Tok}
end
end
local macro_rules | `(tactic| walk_at "call ref") => `(tactic| (k_here; k_dflt (refine' both_no ?r1 ?V1 ?hN1 ?V2 ?hN2 ?hb1 ?hb2 ?B ?F ?X ?N ?T ?hk ?dp ?un ?_; walk_at "use_args"; (case hN1 => k_mem); (case hN2 => k_mem); (case V1 => assumption); (case V2 => assumption); (case r1 => with_reducible assumption); (case hb1 => assumption); (case hb2 => assumption); k_whole; intro e' dx' x1' x2' es' k' u1' u2' u3' v1' v2' g' h' tk' F' R' U' G'; (try dsimp only [partsE] at R' U' ⊢))))
section
variable (w : World) (mean : ExcName → Option Value) (mg mb : Str → Option Value) (news : List (Addr × Obj)) (tk t1 t2 t3 : Tok) (kind : Str) (n : Int) (a b : Addr) (o : Obj)
variable (i j : Nat)
section
variable {w : World} {mean : ExcName → Option Value} {mg mb : Str → Option Value}
  {dp un : Nat} {gd : Option (List Code)} {cn : Str} {cs : Scope} {c Lc : Addr} {ccd : Value} {cl : List (Str × Addr)} {outer : List Env} {A₀ : Around} {base h₀ : Heap} {L : Addr} {m : Str → Option Value} {s : Shared} {news : List (Addr × Obj)} {E : Value → Shared → Prop} {Q : Flow → Shared → Prop}
  {k : Nat} {n1 n2 : Int} {a1 a2 : Addr} {tk t1 t2 t3 t4 t5 : Tok}
end
end
local macro_rules | `(tactic| walk_at "eval Lambda") => `(tactic| (k_here; k_dflt (refine' kla_eval ?d0 ?_; (case d0 => exact rfl)); k_dflt (refine' lam_tab (P := 294) (pre := []) ?F ?N ?T ?C ?cd ?U ?t ?n ?cl ?_; (case F => k_asm); (case N => k_asm); (case T => k_asm); (case cd => exact rfl); (case C => kn_code); (case U => assumption); (case t => k_all); (case n => k_all); (case cl => exact rfl); k_whole); intro f' c' oc' vs' t' ct' h' tk' F' N' d1' d2' l0 l1; (try dsimp only [List.cons_append, List.nil_append] at N'); (try dsimp only [List.cons_append, List.nil_append] at l1); (try k_lt l1)))
section
variable (w : World) (mean : ExcName → Option Value) (mg mb : Str → Option Value) (news : List (Addr × Obj)) (tk t1 t2 t3 : Tok) (kind : Str) (n : Int) (a b : Addr) (o : Obj)
variable (i j : Nat)
section
variable {w : World} {mean : ExcName → Option Value} {mg mb : Str → Option Value}
  {dp un : Nat} {gd : Option (List Code)} {cn : Str} {cs : Scope} {c Lc : Addr} {ccd : Value} {cl : List (Str × Addr)} {outer : List Env} {A₀ : Around} {base h₀ : Heap} {L : Addr} {m : Str → Option Value} {s : Shared} {news : List (Addr × Obj)} {E : Value → Shared → Prop} {Q : Flow → Shared → Prop}
  {k : Nat} {n1 n2 : Int} {a1 a2 : Addr} {tk t1 t2 t3 t4 t5 : Tok}
theorem s6_yes {l : List (Addr × Obj)} {o1 o2 o9 c1 c2 : Obj} {i1 i2 : Nat} {d x y : Addr} {v1 v2 v3 u1 u2 u3 : Tok} (r1 : Room (max i1 i2) n1) (r2 : Room (max i1 i2) n2)
    (B : Below (ktrTop dp un gd cn cs Lc c ccd cl outer) base (envX cn cs Lc c ccd cl :: outer) h₀) (X : (KF w.params).In h₀) (T : Top Vw lo mean mg mb h₀) (XB : (KF w.params).In base) (TB : Top Vw lo mean mg mb base) (D : KtsDicts ((envX cn cs Lc c ccd cl :: outer).filterMap (·.frame)) h₀) (hk : cs.kind = .function) (hdp : dp + 70 < recursionLimit) (hu : un + 700 < cLine)
    (V1 : VObj o1 i1 n1) (V2 : VObj o2 i2 n2) (hN1 : (a1, o1) ∈ news) (hN2 : (a2, o2) ∈ news) (hb1 : BigOK n1) (hb2 : BigOK n2)
    (TL : TabL 294 posP QP l) (hne : ∀ q ∈ news, q.1 ≠ 294) (N : News h₀ L s.heap ((294, o9) :: (l ++ news)))
    (h1 : (L + 1, c1) ∈ news) (h2 : (L + 1 + 1, c2) ∈ news) (d1 : c1.data = .cell (some (.ref a1))) (d2 : c2.data = .cell (some (.ref a2)))
    (hd1 : (d, tupV [.ref x, .ref y]) ∈ news) (hd2 : (x, asO (max i1 i2) n1 v1 v2 v3) ∈ news) (hd3 : (y, asO (max i1 i2) n2 u1 u2 u3) ∈ news)
    (F : Fr h₀ L s.heap (fun y => if y = Str.ofString "due" then some (.ref d) else m y))
    (hQ : ∀ l' g' h' tk, TabL 294 posP QP l' → (∀ q ∈ l', q.1 = 294 ∨ q ∈ l ∨ ∀ p ∈ news, p.1 < q.1) → KtsTurn ((envX cn cs Lc c ccd cl :: outer).filterMap (·.frame)) h₀ g' → Fr g' L h' (fun y => if y = Str.ofString "due" then some (.ref d) else m y) → News g' L h' (l' ++ news) →
      Below (ktrTop dp un gd cn cs Lc c ccd cl outer) base (envX cn cs Lc c ccd cl :: outer) g' → Q .next { s with heap := h', toks := tk })
    : wpAny (model Pr w) ((ktrTop dp un gd cn cs Lc c ccd cl outer).deeper (envOfC (Str.ofString "_law_pair_right") (scopeAt w 297) L 297 (.ref 296))) (exec (stmtAt w 297 6) (envOfC (Str.ofString "_law_pair_right") (scopeAt w 297) L 297 (.ref 296))) Q E s := by
  have hN1' : (a1, o1) ∈ l ++ news := List.mem_append_right _ hN1
  have hN2' : (a2, o2) ∈ l ++ news := List.mem_append_right _ hN2
  have h1' : (L + 1, c1) ∈ l ++ news := List.mem_append_right _ h1
  have h2' : (L + 1 + 1, c2) ∈ l ++ news := List.mem_append_right _ h2
  have C1 := codeHd_of_K (c := 296) (P := 294) XB (by kernel_rfl)
  conv in (occs := *) stmtAt _ _ _ => all_goals whnf
  conv in (occs := *) scopeAt _ _ => all_goals whnf
  k_steps
  refine hQ [(_, _), (294, tabHit posP _)] _ _ _ (.inr ⟨_, _, _, _, rfl, (by assumption), (by assumption)⟩) (tab_order (by assumption)) KtsTurn.refl (by assumption) ?_ (by assumption)
  walk_at "news_sub"
theorem s6_no {l : List (Addr × Obj)} {o1 o2 o9 c1 c2 : Obj} {i1 i2 : Nat} (r1 : ¬(Room (max i1 i2) n1 ∧ Room (max i1 i2) n2))
    (B : Below (ktrTop dp un gd cn cs Lc c ccd cl outer) base (envX cn cs Lc c ccd cl :: outer) h₀) (X : (KF w.params).In h₀) (T : Top Vw lo mean mg mb h₀) (XB : (KF w.params).In base) (TB : Top Vw lo mean mg mb base) (D : KtsDicts ((envX cn cs Lc c ccd cl :: outer).filterMap (·.frame)) h₀) (hk : cs.kind = .function) (hdp : dp + 70 < recursionLimit) (hu : un + 700 < cLine)
    (V1 : VObj o1 i1 n1) (V2 : VObj o2 i2 n2) (hN1 : (a1, o1) ∈ news) (hN2 : (a2, o2) ∈ news) (hb1 : BigOK n1) (hb2 : BigOK n2)
    (TL : TabL 294 posP QP l) (hne : ∀ q ∈ news, q.1 ≠ 294) (N : News h₀ L s.heap ((294, o9) :: (l ++ news)))
    (h1 : (L + 1, c1) ∈ news) (h2 : (L + 1 + 1, c2) ∈ news) (d1 : c1.data = .cell (some (.ref a1))) (d2 : c2.data = .cell (some (.ref a2)))
    (F : Fr h₀ L s.heap (fun y => if y = Str.ofString "due" then some (.str (Str.ofString "InexactError") t3) else m y))
    (hQ : ∀ l' g' h' tk, TabL 294 posP QP l' → (∀ q ∈ l', q.1 = 294 ∨ q ∈ l ∨ ∀ p ∈ news, p.1 < q.1) → KtsTurn ((envX cn cs Lc c ccd cl :: outer).filterMap (·.frame)) h₀ g' → Fr g' L h' (fun y => if y = Str.ofString "due" then some (.str (Str.ofString "InexactError") t3) else m y) → News g' L h' (l' ++ news) →
      Below (ktrTop dp un gd cn cs Lc c ccd cl outer) base (envX cn cs Lc c ccd cl :: outer) g' → Q .next { s with heap := h', toks := tk })
    : wpAny (model Pr w) ((ktrTop dp un gd cn cs Lc c ccd cl outer).deeper (envOfC (Str.ofString "_law_pair_right") (scopeAt w 297) L 297 (.ref 296))) (exec (stmtAt w 297 6) (envOfC (Str.ofString "_law_pair_right") (scopeAt w 297) L 297 (.ref 296))) Q E s := by
  have hN1' : (a1, o1) ∈ l ++ news := List.mem_append_right _ hN1
  have hN2' : (a2, o2) ∈ l ++ news := List.mem_append_right _ hN2
  have h1' : (L + 1, c1) ∈ l ++ news := List.mem_append_right _ h1
  have h2' : (L + 1 + 1, c2) ∈ l ++ news := List.mem_append_right _ h2
  have C1 := codeHd_of_K (c := 296) (P := 294) XB (by kernel_rfl)
  conv in (occs := *) stmtAt _ _ _ => all_goals whnf
  conv in (occs := *) scopeAt _ _ => all_goals whnf
  k_steps
  refine hQ [(_, _), (294, tabHit posP _)] _ _ _ (.inr ⟨_, _, _, _, rfl, (by assumption), (by assumption)⟩) (tab_order (by assumption)) (by assumption) (by assumption) ?_ (by assumption)
  walk_at "news_sub"
end
end
section
variable (w : World) (mean : ExcName → Option Value) (mg mb : Str → Option Value) (news : List (Addr × Obj)) (tk t1 t2 t3 : Tok) (kind : Str) (n : Int) (a b : Addr) (o : Obj)
variable (i j : Nat)
section
variable {w : World} {mean : ExcName → Option Value} {mg mb : Str → Option Value}
  {dp un : Nat} {gd : Option (List Code)} {cn : Str} {cs : Scope} {c Lc : Addr} {ccd : Value} {cl : List (Str × Addr)} {outer : List Env} {A₀ : Around} {base h₀ : Heap} {L : Addr} {m : Str → Option Value} {s : Shared} {news : List (Addr × Obj)} {E : Value → Shared → Prop} {Q : Flow → Shared → Prop}
  {k : Nat} {n1 n2 : Int} {a1 a2 : Addr} {tk t1 t2 t3 t4 t5 : Tok}
variable {Q : Value → Shared → Prop}
theorem pair_c {l : List (Addr × Obj)} {o1 o2 : Obj} {i1 i2 : Nat} (TL : TabL 294 posP QP l) (hb1 : BigOK n1) (hb2 : BigOK n2) (V1 : VObj o1 i1 n1) (V2 : VObj o2 i2 n2) (hN1 : (a1, o1) ∈ news) (hN2 : (a2, o2) ∈ news) (hne : ∀ q ∈ news, q.1 ≠ 294) (h12 : a1 ≠ a2)
    (B : Below A₀ base outer h₀) (F : Fr h₀ L s.heap m) (X : (KF w.params).In h₀) (N : News h₀ L s.heap (l ++ news)) (T : Top Vw lo mean mg mb h₀) (XB : (KF w.params).In base) (TB : Top Vw lo mean mg mb base) (D : KtsDicts (outer.filterMap (·.frame)) h₀) (hk : cs.kind = .function)
     (hdp : dp + 100 < recursionLimit) (hu : un + 1000 < cLine)
     (hret : ∀ l' g' h' tk, TabL 294 posP QP l' → (∀ q ∈ l', q.1 = 294 ∨ q ∈ l ∨ ∀ p ∈ news, p.1 < q.1) → KtsTurn (outer.filterMap (·.frame)) h₀ g' → Fr g' L h' m → News g' L h' (l' ++ news) → Below A₀ base outer g' → Q (.bool true) { s with heap := h', toks := tk })
      : wpAny (model Pr w) (ktrTop dp un gd cn cs L c ccd cl outer) (call (.ref 297) [.ref a1, .ref a2]) Q E s := by
  have b1 := V1.lt
  have b2 := V2.lt
  have b3 : max i1 i2 < 10 := by omega
  obtain ⟨o9, h9⟩ := TL.mem
  have N9 : News h₀ L s.heap ((294, o9) :: (l ++ news)) := fun q hq => by
    rcases List.mem_cons.mp hq with rfl | hq
    · exact N _ (List.mem_append_left _ h9)
    · exact N _ hq
  clear N
  refine wpAny_call ?_; k_dflt walk_at "my_go"
  rename_i g1 L1 hh1 tk1 FG1 F1 B1 X1 T1 D1 l1 oc4 oc3 oc2 oc1 d4 d3 d2 d1 N1
  have e1 : oc1.data = .cell (some (.ref a1)) := d1
  have e2 : oc2.data = .cell (some (.ref a2)) := d2
  have e3 : ∃ v, oc3.data = .cell v := ⟨_, d3⟩
  have e4 : ∃ v, oc4.data = .cell v := ⟨_, d4⟩
  obtain ⟨v3, e3⟩ := e3
  obtain ⟨v4, e4⟩ := e4
  clear d1 d2 d3 d4
  have lL : ∀ q ∈ l ++ news, @LT.lt Nat _ q.1 L1 := lt_allLt l1.2
  have l294 : @LT.lt Nat _ 294 L1 := l1.1
  have y40 : dp + 40 < recursionLimit := by omega
  have z40 : un + 400 < cLine := by omega
  have y70 : dp + 70 < recursionLimit := by omega
  have z70 : un + 700 < cLine := by omega
  have mN : ∀ {p1 p2 p3 p4 p5 : Addr × Obj}, ∀ q ∈ news, q ∈ p1 :: p2 :: p3 :: p4 :: p5 :: (l ++ news) := fun q hq => .tail _ (.tail _ (.tail _ (.tail _ (.tail _ (List.mem_append_right _ hq)))))
  refine wpAny_execs_cons ?_
  refine s0_kinds (L := L1) V1 V2 h12 (mN _ hN1) (mN _ hN2) B1 X1 T1 y40 z40 F1 N1 (.tail _ (.tail _ (.tail _ (.head _)))) (.tail _ (.tail _ (.head _))) e1 e2 ?_
  intro Dk tt1 tt2 kk1 hh2 tk2 F2 N2 of2
  refine wpAny_execs_cons ?_
  refine s1_nums (L := L1) V1 V2 h12 (.tail _ (mN _ hN1)) (.tail _ (mN _ hN2)) B1 X1 T1 y40 z40 F2 N2 (.tail _ (.tail _ (.tail _ (.tail _ (.head _))))) (.tail _ (.tail _ (.tail _ (.head _)))) e1 e2 ?_
  intro Dn tt3 tt4 kk2 hh3 tk3 F3 N3 of3
  refine wpAny_execs_cons ?_
  refine s2_if (L := L1) V1 V2 (.tail _ (.tail _ (mN _ hN1))) (.tail _ (.tail _ (mN _ hN2))) B1 X1 T1 y40 z40 F3 N3 (.tail _ (.tail _ (.tail _ (.tail _ (.tail _ (.head _)))))) (.tail _ (.tail _ (.tail _ (.tail _ (.head _))))) e1 e2 (.head _) (.tail _ (.head _)) ?_
  intro hh4 tk4 F4 N4
  refine wpAny_execs_cons ?_
  refine s3_shared (L := L1) b1 b2 b3 B1 X1 T1 y40 z40 (Fr.two (x1 := Str.ofString "kinds") (x2 := Str.ofString "numbers") F4 rfl rfl) N4 (.tail _ (.head _)) ?_
  intro tt5 hh5 tk5 F5 N5
  simp only [LCg.Off1] at of2 of3
  refine wpAny_execs_cons ?_
  refine s4_bnd (L := L1) (news := (Dn, listN [.int n1 tt3, .int n2 tt4] kk2) :: (Dk, listN [.str (nm i1) tt1, .str (nm i2) tt2] kk1) :: (L1 + 1 + 1, oc2) :: (L1 + 1, oc1) :: (294, o9) :: (l ++ news)) b3 B1 X1 T1 y40 z40 F5 (fun q hq => N5 q ?zs) e3 e4 ?zn3 ?zn4 ?_
  case zs =>
    simp only [List.mem_cons] at hq ⊢
    rcases hq with hq | hq | hq | hq | hq | hq | hq | hq <;> simp [hq]
  case zn3 =>
    intro q hq
    simp only [List.mem_cons] at hq
    rcases hq with rfl | rfl | rfl | rfl | rfl | hq
    · exact Ne.symm of3.2.2.1
    · exact Ne.symm of2.2.1
    · exact Nat.ne_of_lt (by show @LT.lt Nat _ (L1 + 1 + 1) (L1 + 1 + 1 + 1); omega)
    · exact Nat.ne_of_lt (by show @LT.lt Nat _ (L1 + 1) (L1 + 1 + 1 + 1); omega)
    · exact Nat.ne_of_lt (Nat.lt_trans l294 (by show @LT.lt Nat _ L1 (L1 + 1 + 1 + 1); omega))
    · exact Nat.ne_of_lt (Nat.lt_trans (lL q hq) (by show @LT.lt Nat _ L1 (L1 + 1 + 1 + 1); omega))
  case zn4 =>
    intro q hq
    simp only [List.mem_cons] at hq
    rcases hq with rfl | rfl | rfl | rfl | rfl | hq
    · exact Ne.symm of3.2.1
    · exact Ne.symm of2.1
    · exact Nat.ne_of_lt (by show @LT.lt Nat _ (L1 + 1 + 1) (L1 + 1 + 1 + 1 + 1); omega)
    · exact Nat.ne_of_lt (by show @LT.lt Nat _ (L1 + 1) (L1 + 1 + 1 + 1 + 1); omega)
    · exact Nat.ne_of_lt (Nat.lt_trans l294 (by show @LT.lt Nat _ L1 (L1 + 1 + 1 + 1 + 1); omega))
    · exact Nat.ne_of_lt (Nat.lt_trans (lL q hq) (by show @LT.lt Nat _ L1 (L1 + 1 + 1 + 1 + 1); omega))
  intro lw hg o3 o4 tt6 tt7 hh6 tk6 hB F6 N6 c3 c4
  refine wpAny_execs_cons ?_
  have c294 : ∀ {k : Nat}, L1 + k ≠ 294 := fun {k} => Nat.ne_of_gt (Nat.lt_of_lt_of_le l294 (Nat.le_add_right L1 k))
  have hneB : ∀ q ∈ (L1 + 1 + 1 + 1 + 1, o4) :: (L1 + 1 + 1 + 1, o3) :: (Dn, listN [.int n1 tt3, .int n2 tt4] kk2) :: (Dk, listN [.str (nm i1) tt1, .str (nm i2) tt2] kk1) :: (L1 + 1 + 1, oc2) :: (L1 + 1, oc1) :: news, q.1 ≠ 294 := by
    intro q hq
    simp only [List.mem_cons] at hq
    rcases hq with rfl | rfl | rfl | rfl | rfl | rfl | hq
    · exact c294 (k := 4)
    · exact c294 (k := 3)
    · exact Ne.symm of3.2.2.2.2.2.1
    · exact Ne.symm of2.2.2.2.2.1
    · exact c294 (k := 2)
    · exact c294 (k := 1)
    · exact hne q hq
  refine' if_due (L := L1) b3 hB B1 X1 T1 y40 z40 (Fr.two (x1 := Str.ofString "numbers") (x2 := Str.ofString "shared") F6 rfl rfl) N6 (.tail _ (.tail _ (.head _))) (.tail _ (.head _)) (.head _) c3 c4
    (fun r1 r2 d x y u1 u2 u3 w1 w2 w3 hh7 tk7 F7 N7 lx ly lz => wpAny_execs_cons (s6_yes (L := L1) (o9 := o9) (news := (d, tupV [.ref x, .ref y]) :: (y, asO (max i1 i2) n2 w1 w2 w3) :: (x, asO (max i1 i2) n1 u1 u2 u3) :: (L1 + 1 + 1 + 1 + 1, o4) :: (L1 + 1 + 1 + 1, o3) :: (Dn, listN [.int n1 tt3, .int n2 tt4] kk2) :: (Dk, listN [.str (nm i1) tt1, .str (nm i2) tt2] kk1) :: (L1 + 1 + 1, oc2) :: (L1 + 1, oc1) :: news) r1 r2 B1 X1 T1 XB TB D1 hk y70 z70 V1 V2 (by k_mem) (by k_mem) hb1 hb2 TL ?zy1 (fun q hq => N7 q ?zy2) (by k_mem) (by k_mem) e1 e2 (by k_mem) (by k_mem) (by k_mem) F7 ?yes))
    (fun no t hh7 tk7 F7 N7 => wpAny_execs_cons (s6_no (L := L1) (o9 := o9) (news := (L1 + 1 + 1 + 1 + 1, o4) :: (L1 + 1 + 1 + 1, o3) :: (Dn, listN [.int n1 tt3, .int n2 tt4] kk2) :: (Dk, listN [.str (nm i1) tt1, .str (nm i2) tt2] kk1) :: (L1 + 1 + 1, oc2) :: (L1 + 1, oc1) :: news) no B1 X1 T1 XB TB D1 hk y70 z70 V1 V2 (by k_mem) (by k_mem) hb1 hb2 TL hneB (fun q hq => N7 q ?zn2) (by k_mem) (by k_mem) e1 e2 F7 ?no))
  case zy1 =>
    have x294 : @LT.lt Nat _ 294 x := lx (294, o9) (by k_mem)
    intro q hq
    rcases List.mem_cons.mp hq with rfl | hq
    · exact Nat.ne_of_gt (Nat.lt_trans (Nat.lt_trans x294 ly) lz)
    rcases List.mem_cons.mp hq with rfl | hq
    · exact Nat.ne_of_gt (Nat.lt_trans x294 ly)
    rcases List.mem_cons.mp hq with rfl | hq
    · exact Nat.ne_of_gt x294
    · exact hneB q hq
  case zy2 =>
    simp only [List.mem_cons, List.mem_append] at hq ⊢
    rcases hq with hq | hq | hq | hq | hq | hq | hq | hq | hq | hq | hq | hq <;> simp [hq]
  case zn2 =>
    simp only [List.mem_cons, List.mem_append] at hq ⊢
    rcases hq with hq | hq | hq | hq | hq | hq | hq | hq | hq <;> simp [hq]
  all_goals intro l' g6 hh8 tk8 TL' ord kt6 F8 N8 B8
  all_goals have X8 := XB.keeps B8.stays
  all_goals have T8 := TB.keeps B8.stays
  all_goals refine wpAny_execs_cons ?_
  all_goals refine s7_goal (L := L1) b3 B8 X8 T8 y40 z40 (Fr.two (x1 := Str.ofString "shared") (x2 := Str.ofString "due") F8 rfl rfl) N8 ?_
  all_goals intro tg hh9 tk9 F9 N9'
  all_goals refine wpAny_execs_cons ?_
  all_goals refine s8_led (L := L1) (g := (0 : Nat)) b3 V1 V2 hb1 hb2 (List.mem_append_right _ (by k_mem)) (List.mem_append_right _ (by k_mem)) B8 X8 T8 y40 z40 (Fr.two (x1 := Str.ofString "numbers") (x2 := Str.ofString "goal") F9 rfl rfl) N9' (List.mem_append_right _ (by k_mem)) (List.mem_append_right _ (by k_mem)) (List.mem_append_right _ (by k_mem)) e1 e2 ?_
  all_goals intro hh10 tk10 F10 N10
  all_goals refine wpAny_execs_cons ?_
  all_goals refine s9_ord (L := L1) (g := (0 : Nat)) V1 V2 (List.mem_append_right _ (by k_mem)) (List.mem_append_right _ (by k_mem)) B8 X8 T8 y40 z40 F10 N10 (List.mem_append_right _ (by k_mem)) (List.mem_append_right _ (by k_mem)) (List.mem_append_right _ (by k_mem)) e1 e2 ?_
  all_goals intro hh11 tk11 F11 N11
  all_goals refine leaveS_r F11 N11 kt6 ?_
  all_goals intro h0' kT kF kN kB kX kTp kD
  · refine hret l' h0' _ _ TL' (fun q hq => ?_) kT kF (fun q hq => kN q ?_) kB
    · rcases ord q hq with z | z | z
      · exact .inl z
      · exact .inr (.inl z)
      · exact .inr (.inr fun p hp => z p (by k_mem))
    · rcases List.mem_append.mp hq with hq | hq
      · exact List.mem_append_left _ hq
      · exact List.mem_append_right _ (by k_mem)
  · refine hret l' h0' _ _ TL' (fun q hq => ?_) kT kF (fun q hq => kN q ?_) kB
    · rcases ord q hq with z | z | z
      · exact .inl z
      · exact .inr (.inl z)
      · exact .inr (.inr fun p hp => z p (by k_mem))
    · rcases List.mem_append.mp hq with hq | hq
      · exact List.mem_append_left _ hq
      · exact List.mem_append_right _ (by k_mem)
end
end
section
variable (w : World) (mean : ExcName → Option Value) (mg mb : Str → Option Value) (news : List (Addr × Obj)) (tk t1 t2 t3 : Tok) (kind : Str) (n : Int) (a b : Addr) (o : Obj)
variable (i j : Nat)
theorem isp0 : CtV w mean mg mb 12 96 167 [.str (Str.ofString "Bool") tk] (fun _ => .bool true) := by
  intro dp un gd cn cs a' ccd cl outer A₀ base h₀ L m s news Q E B F X N T hk hdp hu hret; refine wpAny_call ?_; (k_dflt cell_enter)
  k_steps
  all_goals first | (refine cb_retB hret ?_ (by assumption) (by assumption); first | rfl | decide)
section
variable {w : World} {A : Around} {E : Value → Shared → Prop} {s : Shared} {h₀ : Heap} {L : Addr} {m : Str → Option Value} {i : Nat} {t u : Tok} {Q : Value → Shared → Prop}
theorem wd_has (h0 : 0 < i) (hi : i < 10) (ng : (nm i == Str.ofString "BigInt") = false) (F : Fr h₀ L s.heap m) (X : (KF w.params).In h₀) (h : Q (.bool true) { s with toks := s.toks + 1 }) : wpAny (model Pr w) A (compareOp .In (.str (nm i) u) (.ref 90)) Q E s := by
  obtain ⟨t', e⟩ := wd_in w.params i h0 (big_no hi ng)
  exact topIn_K F X (by k_is) (by k_keys) e (by decide) h
end
end
local macro_rules | `(tactic| walk_at "compareOp In str ref") => `(tactic| (k_here; (with_reducible show wpAny _ _ (compareOp _ (Value.str (nm _) _) (Value.ref 90)) _ _ _); k_dflt (refine' wd_has ?h0 ?hi ?ng ?F ?X ?_; (case h0 => with_reducible assumption); (case hi => with_reducible assumption); (case ng => assumption); (case F => k_asm); (case X => k_in); k_whole)))
section
variable (w : World) (mean : ExcName → Option Value) (mg mb : Str → Option Value) (news : List (Addr × Obj)) (tk t1 t2 t3 : Tok) (kind : Str) (n : Int) (a b : Addr) (o : Obj)
variable (i j : Nat)
theorem isp_p (i : Nat) (h0 : 0 < i) (hi : i < 10) : CtV w mean mg mb 12 96 167 [.str (nm i) tk] (fun _ => .bool true) := by
  have nb := neBool h0 hi
  intro dp un gd cn cs a' ccd cl outer A₀ base h₀ L m s news Q E B F X N T hk hdp hu hret; refine wpAny_call ?_; (k_dflt cell_enter)
  k_steps
  all_goals refine cb_retB hret ?_ (by assumption) (by assumption)
  all_goals first | rfl | assumption | (split <;> first | rfl | simp_all)
theorem isp_c (i : Nat) (hi : i < 10) : CtV w mean mg mb 12 96 167 [.str (nm i) tk] (fun _ => .bool true) := by
  rcases Nat.eq_zero_or_pos i with rfl | h0
  · exact isp0 w mean mg mb tk
  · exact isp_p w mean mg mb tk i h0 hi
end
section
section
variable {prog : Program} {w : World} {A : Around} {E : Value → Shared → Prop} {s : Shared} {h₀ : Heap} {L : Addr} {m : Str → Option Value} {env : Env} {news : List (Addr × Obj)} {x : Str} {body : List Stmt} {Q : Flow → Shared → Prop}
theorem compEnd_mono {I C D : Addr} {s₁ s₂ : Shared} {oI oC oD : Obj} {S : List (Addr × Obj) → Prop} {rest rest' : Value → List (Addr × Obj) → Prop} {y : Value} (h : LCg.CompEnd h₀ L m s₁ I oI C oC D oD S rest y s₂) (hr : ∀ y n, rest y n → rest' y n) :
    LCg.CompEnd h₀ L m s₁ I oI C oC D oD S rest' y s₂ := by
  obtain ⟨h', tk, news', e, F, N, o, hS, r⟩ := h
  exact ⟨h', tk, news', e, F, N, o, hS, hr _ _ r⟩
/-- the turns of a comprehension by what holds of its list and its ledger -/
theorem compRest_ind {elt : Expr} {scope : Scope} {cl : List (Str × Addr)} {S : List (Addr × Obj) → Prop} {P : Nat → Value → Prop} {Fin : List Value → List (Addr × Obj) → Prop} {n : Nat} (R : Nat → List Value → List (Addr × Obj) → Prop)
    (step : ∀ i ys news v I oI C oC D m₂ h tk (E' : Value → Shared → Prop), i < n → R i ys news → P i v → LCg.NsObj oC m₂ → m₂ x = some v → Fr h₀ L h m → News h₀ L h ((I, oI) :: (C, oC) :: (D, LCg.lst ys) :: news) → LCg.Off3 I C D news → ((@Ne Nat I C) ∧ (@Ne Nat I D) ∧ (@Ne Nat C D)) →
      wpAny (model prog w) A (eval elt (compEnvC scope cl C env)) (LCg.CompEnd h₀ L m { s with heap := h, toks := tk } I oI C oC D (LCg.lst ys) S (fun y news' => R (i + 1) (ys ++ [y]) news')) E' { s with heap := h, toks := tk })
    (fin : ∀ ys news, R n ys news → Fin ys news) : ∀ k i ys news, i + k = n → R i ys news → LCg.CompRest prog w A h₀ L m env elt x scope cl s S P Fin k i ys news
  | 0, i, ys, news, e, hR => by
    have e' : i = n := by omega
    subst e'
    exact fin _ _ hR
  | k + 1, i, ys, news, e, hR => LCg.CompRest.succ fun v I oI C oC D m₂ h tk E' hP hC hx F N off ne =>
      wpAny_mono (step i ys news v I oI C oC D m₂ h tk E' (by omega) hR hP hC hx F N off ne) (fun y s' z => compEnd_mono z fun y' n' r => compRest_ind R step fin k (i + 1) (ys ++ [y']) n' (by omega) r) fun _ _ e => e
/-- a loop over a list of the ledger: what holds of the frame's names -/
theorem list_inv {l : Addr} {vs : List Value} {k : Nat} {m₀ : Str → Option Value} (J : Nat → (Str → Option Value) → Prop)
    (hh : A.handled = none) (F : Fr h₀ env.locals s.heap m₀) (N : News h₀ env.locals s.heap news) (hm : (l, listN vs k) ∈ news) (h0 : J 0 m₀)
    (turn : ∀ i v m₁ h tk own, vs[i]? = some v → J i m₁ → Fr h₀ env.locals h (fun y => if y = x then some v else m₁ y) → News h₀ env.locals h (news ++ own) →
      ∀ Q' : Flow → Shared → Prop, (∀ h' tk' m₂, Fr h₀ env.locals h' m₂ → News h₀ env.locals h' (news ++ own) → J (i + 1) m₂ → Q' .next { s with heap := h', toks := tk' }) → wpAny (model prog w) A (execs body env) Q' E { s with heap := h, toks := tk })
    (done : ∀ m₁ h tk, J vs.length m₁ → Fr h₀ env.locals h m₁ → News h₀ env.locals h news → Q .next { s with heap := h, toks := tk }) :
    wpAny (model prog w) A (pyIter (.ref l)) (fun it s₂ => LoopAtV prog w A h₀ env x body Q E it s₂) E s := by
  have hl := N _ hm
  have hls : s.heap.IsList l vs.toArray := ⟨_, hl.1, rfl, k, rfl⟩
  have hlt : l < s.heap.objs.size := Heap.lt_size hl.1
  have hne : l ≠ s.heap.objs.size := Nat.ne_of_lt hlt
  refine wpAny_pyIter_list hls ?_
  have W := Walks.list (prog := prog) (w := w) hh s.heap.objs.size l hne vs.toArray
  refine ⟨_, _, _, vs.toArray.size, _, _, m₀, news, fun i m₁ news₁ => news₁ = news ∧ J i m₁, rfl, W, ?_, ?_, ?_, ⟨⟨_, Heap.get?_push_size _ rfl, rfl, rfl⟩, hls.at fun o e => Heap.get?_push_of_some _ e⟩, F.push _, (fun p hp => ⟨Heap.get?_push_of_some _ (N p hp).1, (N p hp).2⟩), ⟨rfl, h0⟩, ?_, ?_⟩
  · intro hm'
    rcases List.mem_cons.mp hm' with e | hm'
    · exact absurd F.ns.lt (e ▸ Nat.lt_irrefl _)
    · exact hl.2.1 (List.mem_singleton.mp hm').symm
  · intro b hb
    rw [List.mem_singleton.mp hb]
    exact next_is_new F
  · intro p hp hI
    exact absurd (Heap.lt_size (N p hp).1) ((List.mem_singleton.mp hI) ▸ Nat.lt_irrefl _)
  · rintro i v m₁ news₁ s₁ own ⟨hh', tk', rfl⟩ hin hP ⟨rfl, hJ⟩ hoff _ _ _ _ F₁ N₁
    have N₂ : News h₀ env.locals hh' (news₁ ++ own) := fun q hq => N₁ q (by rcases List.mem_append.mp hq with z | z; exact List.mem_append_right _ z; exact List.mem_append_left _ z)
    have hP' : vs[i]? = some v := by simpa using hP
    refine turn i v m₁ hh' tk' own hP' hJ F₁ N₂ _ fun h' tk m₂ F' N' hJ' => ?_
    exact LoopStepV.next (LoopStepU.intro F' (fun q hq => N' q (by rcases List.mem_append.mp hq with z | z; exact List.mem_append_right _ z; exact List.mem_append_left _ z)) hoff ⟨rfl, hJ'⟩)
  · rintro h' tk m' news' F' N' _ ⟨rfl, hJ⟩
    exact done m' h' tk (by simpa using hJ) F' N'
/-- a loop over a range: what holds of the frame's names and of the ledger -/
theorem range_inv {r : Addr} {a₀ b₀ : Int} {t₀ u₀ v₀ : Tok} {n : Nat} {m₀ : Str → Option Value} (J : Nat → (Str → Option Value) → List (Addr × Obj) → Prop)
    (hh : A.handled = none) (hr : IsRange s.heap r a₀ b₀ 1 t₀ u₀ v₀) (hsmall : Builtin.Range.small a₀ b₀ 1 = true) (hn : Builtin.Range.rangeSize a₀ b₀ 1 = (n : Int)) (F : Fr h₀ env.locals s.heap m₀) (N : News h₀ env.locals s.heap news) (h0 : J 0 m₀ news)
    (turn : ∀ i t m₁ news₁ h tk I oI, i < n → J i m₁ news₁ → (∀ p ∈ news₁, p.1 ≠ I) → Fr h₀ env.locals h (fun y => if y = x then some (.int (a₀ + (i : Int) * 1) t) else m₁ y) → News h₀ env.locals h ((I, oI) :: news₁) →
      ∀ Q' : Flow → Shared → Prop, (∀ h' tk' m₂ news₂, Fr h₀ env.locals h' m₂ → News h₀ env.locals h' ((I, oI) :: news₂) → (∀ p ∈ news₂, p.1 ≠ I) → J (i + 1) m₂ news₂ → Q' .next { s with heap := h', toks := tk' }) → wpAny (model prog w) A (execs body env) Q' E { s with heap := h, toks := tk })
    (done : ∀ m₁ news₁ h tk, J n m₁ news₁ → Fr h₀ env.locals h m₁ → News h₀ env.locals h news₁ → Q .next { s with heap := h, toks := tk }) :
    wpAny (model prog w) A (pyIter (.ref r)) (fun it s₂ => LoopAtV prog w A h₀ env x body Q E it s₂) E s := by
  refine wpAny_pyIter_range hr hsmall ?_
  have W : Walks prog w A s.heap.objs.size [s.heap.objs.size] [s.heap.objs.size] n (fun i v => i < n ∧ ∃ t, v = .int (a₀ + i * 1) t)
      (fun i h => IsRangeIter h s.heap.objs.size (a₀ + (i : Nat) * 1) ((n : Int) - (i : Nat)) 1) := (Walks.range hh _ a₀ 1 n).bound
  refine ⟨_, _, _, n, _, _, m₀, news, J, rfl, W, ?_, ?_, ?_, (by show IsRangeIter _ _ _ _ _; rw [hn]; simpa using Heap.get?_push_size _ rfl), F.push _, (fun p hp => ⟨Heap.get?_push_of_some _ (N p hp).1, (N p hp).2⟩), h0, ?_, ?_⟩
  · intro hm
    exact absurd F.ns.lt ((List.mem_singleton.mp hm) ▸ Nat.lt_irrefl _)
  · intro b hb
    rw [List.mem_singleton.mp hb]
    exact next_is_new F
  · intro p hp hI
    exact absurd (Heap.lt_size (N p hp).1) ((List.mem_singleton.mp hI) ▸ Nat.lt_irrefl _)
  · rintro i v m₁ news₁ s₁ own ⟨hh', tk', rfl⟩ hin ⟨_, t, rfl⟩ hJ hoff hown hget hall hst F₁ N₁
    have hI : ∃ o, hh'.get? s.heap.objs.size = some o := ⟨_, hst⟩
    obtain ⟨oI, heI⟩ := hI
    have hI₀ : h₀.get? s.heap.objs.size = none := next_is_new F
    have mI : (s.heap.objs.size, oI) ∈ own := hall _ (List.mem_singleton.mpr rfl) hI₀ _ heI
    have one : ∀ p ∈ own, p = (s.heap.objs.size, oI) := fun p hp => by
      have e1 := List.mem_singleton.mp (hown p hp)
      have e2 := hget p hp
      rw [e1] at e2
      have e3 : hh'.get? s.heap.objs.size = some p.2 := e2
      rw [heI] at e3
      exact Prod.ext e1 (Option.some.inj e3).symm
    refine turn i t m₁ news₁ hh' tk' s.heap.objs.size oI hin hJ (fun p hp e => hoff p hp (List.mem_singleton.mpr e)) F₁ (fun q hq => N₁ q ?_) _ fun h' tk m₂ news₂ F' N' ho hJ' => ?_
    · rcases List.mem_cons.mp hq with rfl | hq
      · exact List.mem_append_left _ mI
      · exact List.mem_append_right _ hq
    · refine LoopStepV.next (LoopStepU.intro F' (fun q hq => ?_) (fun p hp hb => ho p hp (List.mem_singleton.mp hb)) hJ')
      rcases List.mem_append.mp hq with hq | hq
      · rw [one q hq]
        exact N' _ (.head _)
      · exact N' _ (.tail _ hq)
  · rintro h' tk m' news' F' N' _ hJ
    exact done m' news' h' tk hJ F' N'
end
/-- the items are names of kinds -/
inductive NmsAre : List Value → List Nat → Prop
  | nil : NmsAre [] []
  | cons (i : Nat) (t : Tok) {vs is} : NmsAre vs is → NmsAre (.str (nm i) t :: vs) (i :: is)
theorem NmsAre.get {vs : List Value} {is : List Nat} (h : NmsAre vs is) : ∀ (k : Nat) (v : Value), vs[k]? = some v → ∃ i t, v = .str (nm i) t ∧ is[k]? = some i := by
  induction h with
  | nil => intro k v e; simp at e
  | cons i t h ih =>
    intro k v e
    rcases k with _ | k
    · exact ⟨i, t, by simpa using e.symm, rfl⟩
    · exact ih k v (by simpa using e)
theorem NmsAre.snoc {vs : List Value} {is : List Nat} (h : NmsAre vs is) (i : Nat) (t : Tok) : NmsAre (vs ++ [.str (nm i) t]) (is ++ [i]) := by
  induction h with
  | nil => exact .cons i t .nil
  | cons j u h ih => exact .cons j u ih
theorem NmsAre.length {vs : List Value} {is : List Nat} (h : NmsAre vs is) : vs.length = is.length := by
  induction h with
  | nil => rfl
  | cons j u h ih => rw [List.length_cons, List.length_cons, ih]
theorem ints_snoc {vs : List Value} {ns : List Int} (h : IntsAre vs ns) (n : Int) (t : Tok) : IntsAre (vs ++ [.int n t]) (ns ++ [n]) := by
  induction h with
  | nil => exact .cons n t .nil
  | cons j u h ih => exact .cons j u ih
/-- the items are figures below ten -/
structure Figs (vs : List Value) (is : List Nat) : Prop where
  num_ : IntsAre vs (is.map fun (i : Nat) => (i : Int))
  lt : ∀ i ∈ is, i < 10
theorem Figs.nil : Figs [] [] := ⟨.nil, fun _ h => (List.not_mem_nil h).elim⟩
theorem Figs.snoc {vs : List Value} {is : List Nat} (h : Figs vs is) {r : Int} (t : Tok) (h0 : 0 ≤ r) (h1 : r < 10) : Figs (vs ++ [.int r t]) (is ++ [r.toNat]) := by
  refine ⟨?_, fun i hi => ?_⟩
  · have e : ((r.toNat : Nat) : Int) = r := Int.toNat_of_nonneg h0
    rw [List.map_append, List.map_singleton, e]
    exact ints_snoc h.num_ r t
  · rcases List.mem_append.mp hi with hi | hi
    · exact h.lt i hi
    · rw [List.mem_singleton.mp hi]; omega
theorem Figs.length {vs : List Value} {is : List Nat} (h : Figs vs is) : vs.length = is.length := by
  rw [IntsAre.length h.num_, List.length_map]
theorem Figs.get {vs : List Value} {is : List Nat} (h : Figs vs is) (k : Nat) (v : Value) (e : vs[k]? = some v) : ∃ i t, v = .int ((i : Nat) : Int) t ∧ is[k]? = some i ∧ i < 10 := by
  have hk : k < vs.length := by
    by_cases q : k < vs.length
    · exact q
    · rw [List.getElem?_eq_none (by omega)] at e; cases e
  have hk' : k < is.length := by rw [← h.length]; exact hk
  obtain ⟨t, ht⟩ := h.num_.get k ((is[k] : Nat) : Int) (by simp [hk'])
  rw [e] at ht
  exact ⟨is[k], t, Option.some.inj ht, by simp [hk'], h.lt _ (List.getElem_mem hk')⟩
/-- the greatest of some kinds -/
def mxs (is : List Nat) : Nat := is.foldl max 0
theorem foldl_max : ∀ (is : List Nat) (b : Nat), b ≤ is.foldl max b ∧ (∀ a ∈ is, a ≤ is.foldl max b) ∧ (is.foldl max b = b ∨ is.foldl max b ∈ is)
  | [], b => ⟨Nat.le_refl _, ⟨fun a h => (List.not_mem_nil h).elim, Or.inl rfl⟩⟩
  | i :: r, b => by
    obtain ⟨h1, h2, h3⟩ := foldl_max r (max b i)
    rw [List.foldl_cons]
    refine ⟨Nat.le_trans (Nat.le_max_left b i) h1, fun a ha => ?_, ?_⟩
    · rcases List.mem_cons.mp ha with rfl | ha
      · exact Nat.le_trans (Nat.le_max_right b _) h1
      · exact h2 a ha
    · rcases h3 with h3 | h3
      · rcases Nat.le_total b i with q | q
        · rw [h3, Nat.max_eq_right q]; exact .inr (.head _)
        · rw [h3, Nat.max_eq_left q]; exact .inl rfl
      · exact .inr (.tail _ h3)
theorem mxs_lt {is : List Nat} (h : ∀ i ∈ is, i < 10) : mxs is < 10 := by
  rcases (foldl_max is 0).2.2 with e | e
  · rw [mxs, e]; omega
  · exact h _ e
theorem mxs_snoc (is : List Nat) (i : Nat) : mxs (is ++ [i]) = max (mxs is) i := by
  simp [mxs, List.foldl_append]
theorem mxs_is {is : List Nat} {M : Int} (h1 : M ∈ (is.map fun (i : Nat) => (i : Int)) ++ [0]) (h2 : ∀ a, a ∈ (is.map fun (i : Nat) => (i : Int)) ++ [0] → a ≤ M) : M = ((mxs is : Nat) : Int) := by
  obtain ⟨f1, f2, f3⟩ := foldl_max is 0
  have g1 : ((mxs is : Nat) : Int) ≤ M := by
    rcases f3 with e | e
    · rw [mxs, e]; exact h2 0 (List.mem_append_right _ (.head _))
    · exact h2 _ (List.mem_append_left _ (List.mem_map.mpr ⟨_, e, rfl⟩))
  have g2 : M ≤ ((mxs is : Nat) : Int) := by
    rcases List.mem_append.mp h1 with e | e
    · obtain ⟨i, hi, rfl⟩ := List.mem_map.mp e
      exact Int.ofNat_le.mpr (f2 i hi)
    · rw [List.mem_singleton.mp e]; omega
  omega
theorem take_get {is : List Nat} {k i : Nat} (h : is[k]? = some i) : is.take (k + 1) = is.take k ++ [i] := by
  rw [List.take_add_one, h]; rfl
end
section
section
variable {w : World} {mean : ExcName → Option Value} {mg mb : Str → Option Value}
  {dp un : Nat} {gd : Option (List Code)} {cn : Str} {cs : Scope} {c Lc : Addr} {ccd : Value} {cl : List (Str × Addr)} {outer : List Env} {A₀ : Around} {base h₀ : Heap} {L : Addr} {m : Str → Option Value} {s : Shared} {news : List (Addr × Obj)} {E : Value → Shared → Prop} {Q : Flow → Shared → Prop}
  {k : Nat} {n1 n2 : Int} {a1 a2 : Addr} {tk t1 t2 t3 t4 t5 : Tok}
variable {fa : Addr} {cd : Value}
end
end
local macro_rules | `(tactic| walk_at "exec Assign cons ListComp") => `(tactic| (k_here; k_dflt (refine LCg.Assign_ListComp_U (F₀ := by k_asm) (by rfl) (by with_unfolding_all rfl) (by rfl) (by decide) (by rfl) (by decide) (by rfl) (by rfl) (by rfl) ?_); k_dflt lcg_toSrc))
section
section
variable {w : World} {mean : ExcName → Option Value} {mg mb : Str → Option Value}
  {dp un : Nat} {gd : Option (List Code)} {cn : Str} {cs : Scope} {c Lc : Addr} {ccd : Value} {cl : List (Str × Addr)} {outer : List Env} {A₀ : Around} {base h₀ : Heap} {L : Addr} {m : Str → Option Value} {s : Shared} {news : List (Addr × Obj)} {E : Value → Shared → Prop} {Q : Flow → Shared → Prop}
  {k : Nat} {n1 n2 : Int} {a1 a2 : Addr} {tk t1 t2 t3 t4 t5 : Tok}
variable {fa : Addr} {cd : Value}
end
end
local macro_rules | `(tactic| walk_at "eval ListComp") => `(tactic| (k_here; k_dflt (refine LCg.ListComp_U (F₀ := by k_asm) (by rfl) (by decide) (by rfl) (by decide) (by rfl) ?_); k_dflt lcg_toSrc))
section
section
variable {w : World} {mean : ExcName → Option Value} {mg mb : Str → Option Value}
  {dp un : Nat} {gd : Option (List Code)} {cn : Str} {cs : Scope} {c Lc : Addr} {ccd : Value} {cl : List (Str × Addr)} {outer : List Env} {A₀ : Around} {base h₀ : Heap} {L : Addr} {m : Str → Option Value} {s : Shared} {news : List (Addr × Obj)} {E : Value → Shared → Prop} {Q : Flow → Shared → Prop}
  {k : Nat} {n1 n2 : Int} {a1 a2 : Addr} {tk t1 t2 t3 t4 t5 : Tok}
variable {fa : Addr} {cd : Value}
/-- a halt of the walk -/
structure Halt (p : Prop) : Prop where
  out : p
end
end
local macro_rules | `(tactic| walk_at "CompSrc") => `(tactic| (refine Halt.out ?_))
section
section
variable {w : World} {mean : ExcName → Option Value} {mg mb : Str → Option Value}
  {dp un : Nat} {gd : Option (List Code)} {cn : Str} {cs : Scope} {c Lc : Addr} {ccd : Value} {cl : List (Str × Addr)} {outer : List Env} {A₀ : Around} {base h₀ : Heap} {L : Addr} {m : Str → Option Value} {s : Shared} {news : List (Addr × Obj)} {E : Value → Shared → Prop} {Q : Flow → Shared → Prop}
  {k : Nat} {n1 n2 : Int} {a1 a2 : Addr} {tk t1 t2 t3 t4 t5 : Tok}
variable {fa : Addr} {cd : Value}
theorem size_of {r : Int} (h0 : 0 ≤ r) (h6 : r < 6) : Builtin.Range.small 0 r 1 = true ∧ Builtin.Range.rangeSize 0 r 1 = ((r.toNat : Nat) : Int) ∧ r.toNat ≤ sizeLine ∧ r.toNat ≤ 5 := by
  have c : r = 0 ∨ r = 1 ∨ r = 2 ∨ r = 3 ∨ r = 4 ∨ r = 5 := by omega
  rcases c with rfl | rfl | rfl | rfl | rfl | rfl <;> exact ⟨by decide, by decide, by decide, by decide⟩
structure SomeR (L da : Addr) (o1 : Obj) (news : List (Addr × Obj)) (i : Nat) (ys : List Value) (nw : List (Addr × Obj)) : Prop where
  out : ∃ is e0 e1 u0 u1, Figs ys is ∧ is.length = i ∧ 0 ≤ e0 ∧ 0 ≤ e1 ∧ nw = (da, lstO e0 u0 e1 u1 0) :: (L + 1, o1) :: news
theorem l2_some {o1 : Obj} {da : Addr} {d0 d1 : Int} {t0 t1 : Tok} (hA : A₀ = callerA) (B : Below A₀ base [] h₀) (X : (KF w.params).In h₀) (T : Top Vw lo mean mg mb h₀) (h0 : 0 ≤ d0) (h1 : 0 ≤ d1)
    (F : Fr h₀ L s.heap m) (N : News h₀ L s.heap ((da, lstO d0 t0 d1 t1 0) :: (L + 1, o1) :: news)) (dd : o1.data = .cell (some (.ref da))) (hl : L + 1 < da) (hn : ∀ q ∈ news, q.1 ≠ da)
    (hQ : ∀ D ys is e0 e1 u0 u1 h' tk, 0 ≤ e0 → 0 ≤ e1 → Figs ys is → is.length ≤ 5 → Fr h₀ L h' (fun y => if y = Str.ofString "some" then some (.ref D) else m y) → News h₀ L h' ((D, LCg.lst ys) :: (da, lstO e0 u0 e1 u1 0) :: (L + 1, o1) :: news) → LCg.Off1 D ((da, lstO e0 u0 e1 u1 0) :: (L + 1, o1) :: news) → Q .next { s with heap := h', toks := tk })
    : wpAny (model Pr w) (A₀.deeper (envOfC (Str.ofString "law") (scopeAt w 309) L fa cd)) (exec (stmtAt w 309 2) (envOfC (Str.ofString "law") (scopeAt w 309) L fa cd)) Q E s := by
  subst hA
  conv in (occs := *) stmtAt _ _ _ => all_goals whnf
  conv in (occs := *) scopeAt _ _ => all_goals whnf
  have hnA : ∀ q ∈ (L + 1, o1) :: news, q.1 ≠ da := fun q hq => by
    rcases List.mem_cons.mp hq with rfl | hq
    · exact Nat.ne_of_lt hl
    · exact hn q hq
  k_steps
  refine Halt.mk ?_
  rename (_ : Int) < 6 => h6
  have hz := size_of (by assumption) h6
  refine LCg.CompSrc.range (by rfl) (by k_asm) (by k_asm) (by assumption) hz.1 hz.2.1 hz.2.2.1 ?_
  intro g'
  refine compRest_ind (SomeR L da o1 news) ?step ?fin _ 0 [] _ (Nat.zero_add _) ⟨[], _, _, _, _, Figs.nil, rfl, (by assumption), (by assumption), rfl⟩
  case fin =>
    rintro ys nw ⟨is, e0, e1, u0, u1, fg, hl', p0, p1, rfl⟩
    intro D h' tk F' N' o'
    exact hQ D ys is e0 e1 u0 u1 h' tk p0 p1 fg (by rw [hl']; exact hz.2.2.2) F' N' o'
  case step =>
    rintro i ys nw v I oI C oC D m₂ h' tk' E' hi ⟨is, e0, e1, u0, u1, fg, hl', p0, p1, rfl⟩ hP hC hx F1 N1 off ne
    clear hQ
    simp only [LCg.Off3] at off
    k_steps
    rename (_ : Int) < 10 => h10
    exact ⟨_, _, _, _, _, fg.snoc _ (by assumption) h10, by rw [List.length_append, hl']; rfl, by assumption, by assumption, rfl⟩
end
end
local macro_rules | `(tactic| walk_at "exec For Name Name cons nil") => `(tactic| (k_here; (rename Fr _ _ _ _ => lF'); (with_unfolding_all refine' For_invVF lF' ?k1 ?k2 ?_; (case k1 => exact rfl); (case k2 => exact rfl); k_whole)))
section
section
variable {w : World} {mean : ExcName → Option Value} {mg mb : Str → Option Value}
  {dp un : Nat} {gd : Option (List Code)} {cn : Str} {cs : Scope} {c Lc : Addr} {ccd : Value} {cl : List (Str × Addr)} {outer : List Env} {A₀ : Around} {base h₀ : Heap} {L : Addr} {m : Str → Option Value} {s : Shared} {news : List (Addr × Obj)} {E : Value → Shared → Prop} {Q : Flow → Shared → Prop}
  {k : Nat} {n1 n2 : Int} {a1 a2 : Addr} {tk t1 t2 t3 t4 t5 : Tok}
variable {fa : Addr} {cd : Value}
end
end
local macro_rules | `(tactic| walk_at "pyIter ref") => `(tactic| (refine Halt.out ?_))
section
section
variable {w : World} {mean : ExcName → Option Value} {mg mb : Str → Option Value}
  {dp un : Nat} {gd : Option (List Code)} {cn : Str} {cs : Scope} {c Lc : Addr} {ccd : Value} {cl : List (Str × Addr)} {outer : List Env} {A₀ : Around} {base h₀ : Heap} {L : Addr} {m : Str → Option Value} {s : Shared} {news : List (Addr × Obj)} {E : Value → Shared → Prop} {Q : Flow → Shared → Prop}
  {k : Nat} {n1 n2 : Int} {a1 a2 : Addr} {tk t1 t2 t3 t4 t5 : Tok}
variable {fa : Addr} {cd : Value}
structure FoundJ (is : List Nat) (i : Nat) (m : Str → Option Value) : Prop where
  out : ∃ t, m (Str.ofString "found") = some (.str (nm (mxs (is.take i))) t)
theorem promoted_all_c {Q : Value → Shared → Prop} {D : Addr} {ys : List Value} {is : List Nat} (NA : NmsAre ys is) (hlt : ∀ i ∈ is, i < 10) (hN : (D, LCg.lst ys) ∈ news) (B : Below A₀ base outer h₀) (F : Fr h₀ L s.heap m) (X : (KF w.params).In h₀) (N : News h₀ L s.heap news) (T : Top Vw lo mean mg mb h₀) (hk : cs.kind = .function)
    (hdp : dp + 40 < recursionLimit) (hu : un + 400 < cLine) (hret : ∀ t1 h' tk, Fr h₀ L h' m → News h₀ L h' news → Q (.str (nm (mxs is)) t1) { s with heap := h', toks := tk }) :
    wpAny (model Pr w) (ktrTop dp un gd cn cs L c ccd cl outer) (call (.ref 188) [.ref D]) Q E s := by
  refine wpAny_call ?_; (k_dflt cell_enter)
  k_steps
  refine Halt.mk ?_
  refine' list_inv (FoundJ is) (l := D) (vs := ys) (k := ys.length) ?hh ?F ?N ?hm ?h0 ?_ ?_
  case hh => rfl
  case F => assumption
  case N => assumption
  case hm => exact hN
  case h0 => exact ⟨_, rfl⟩
  · intro i v m₁ h₁ tk₁ own hv hJ F₁ N₁ Q' hQ'
    obtain ⟨j, t, rfl, hj⟩ := NA.get i v hv
    obtain ⟨t', hf⟩ := hJ.out
    have b1 : mxs (is.take i) < 10 := mxs_lt (fun q hq => hlt q (List.mem_of_mem_take hq))
    have b2 : j < 10 := hlt j (List.mem_of_getElem? hj)
    have F₂ := Fr.two (x1 := Str.ofString "kind") (x2 := Str.ofString "found") F₁ rfl ((if_neg (by decide)).trans hf)
    clear F₁ hret
    k_steps
    exact hQ' _ _ _ (by assumption) (by assumption) ⟨_, by rw [take_get hj, mxs_snoc]; rfl⟩
  · intro m₁ h₁ tk₁ hJ F₁ N₁
    obtain ⟨t', hf⟩ := hJ.out
    rw [NA.length, List.take_length] at hf
    have F₂ := Fr.two (x1 := Str.ofString "found") (x2 := Str.ofString "found") F₁ hf hf
    clear F₁
    dsimp only
    k_steps
    exact hret _ _ _ (by assumption) (by assumption)
end
end
local macro_rules | `(tactic| walk_at "call ref") => `(tactic| (k_here; (with_reducible show wpAny _ _ (call (Value.ref 188) _) _ _ _); k_dflt (refine' promoted_all_c ?NA ?lt ?hN ?B ?F ?X ?N ?T ?hk ?dp ?un ?_; (case NA => assumption); (case lt => assumption); walk_at "use_args"; (case hN => k_mem); k_whole; intro t1' h' tk' F' N'; (try dsimp only at N'); (try k_sweep))))
section
section
variable {w : World} {mean : ExcName → Option Value} {mg mb : Str → Option Value}
  {dp un : Nat} {gd : Option (List Code)} {cn : Str} {cs : Scope} {c Lc : Addr} {ccd : Value} {cl : List (Str × Addr)} {outer : List Env} {A₀ : Around} {base h₀ : Heap} {L : Addr} {m : Str → Option Value} {s : Shared} {news : List (Addr × Obj)} {E : Value → Shared → Prop} {Q : Flow → Shared → Prop}
  {k : Nat} {n1 n2 : Int} {a1 a2 : Addr} {tk t1 t2 t3 t4 t5 : Tok}
variable {fa : Addr} {cd : Value}
theorem add_figs {prog : Program} {A : Around} {Q : Value → Shared → Prop} {D D0 : Addr} {ys : List Value} {is : List Nat} {t : Tok} {z : Nat} (fg : Figs ys is) (h5 : is.length ≤ 5) (F : Fr h₀ L s.heap m) (N : News h₀ L s.heap news) (hx : (D, LCg.lst ys) ∈ news) (hy : (D0, listN [.int 0 t] z) ∈ news)
    (h : ∀ Z h', Fr h₀ L h' m → News h₀ L h' ((Z, listN (ys ++ [.int 0 t]) 0) :: news) → (∀ q ∈ news, q.1 < Z) → Q (.ref Z) { s with heap := h' }) : wpAny (model prog w) A (binaryOp .Add (.ref D) (.ref D0)) Q E s :=
  add_lists (vs := ys) (ws := [.int 0 t]) F N ⟨_, (N _ hx).1, rfl, _, rfl⟩ ⟨_, (N _ hy).1, rfl, _, rfl⟩ (fun h' F' N' => h _ h' F' N' (lt_of_news N)) (by have := fg.length; rw [sizeLine_eq]; simp only [List.length_cons, List.length_nil]; omega)
theorem max_figs {prog : Program} {A : Around} {Q : Value → Shared → Prop} {Z : Addr} {ys : List Value} {is : List Nat} {t : Tok} {z : Nat} (hh : A.handled = none) (fg : Figs ys is) (F : Fr h₀ L s.heap m) (N : News h₀ L s.heap news) (hx : (Z, listN (ys ++ [.int 0 t]) z) ∈ news)
    (h : ∀ h' t' tk, Fr h₀ L h' m → News h₀ L h' news → Q (.int ((mxs is : Nat) : Int) t') { s with heap := h', toks := tk }) : wpAny (model prog w) A (call (.builtin "max") [.ref Z]) Q E s :=
  max_list_N hh F N ⟨_, (N _ hx).1, rfl, _, rfl⟩ (ints_snoc fg.num_ 0 t) (by simp) fun h' M t' tk F' N' a b => by
    rw [mxs_is a b]
    exact h h' t' tk F' N'
end
end
local macro_rules | `(tactic| walk_at "binaryOp Add ref ref") => `(tactic| (k_here; k_dflt (refine' add_figs ?fg ?h5 ?F ?N ?hx ?hy ?_; (case fg => assumption); (case h5 => assumption); (case F => k_asm); (case N => k_asm); (case hx => k_mem); (case hy => k_mem); k_whole; intro Z' h' F' N' l1; (try k_lt l1); (try k_sweep))))
section
section
variable {w : World} {mean : ExcName → Option Value} {mg mb : Str → Option Value}
  {dp un : Nat} {gd : Option (List Code)} {cn : Str} {cs : Scope} {c Lc : Addr} {ccd : Value} {cl : List (Str × Addr)} {outer : List Env} {A₀ : Around} {base h₀ : Heap} {L : Addr} {m : Str → Option Value} {s : Shared} {news : List (Addr × Obj)} {E : Value → Shared → Prop} {Q : Flow → Shared → Prop}
  {k : Nat} {n1 n2 : Int} {a1 a2 : Addr} {tk t1 t2 t3 t4 t5 : Tok}
variable {fa : Addr} {cd : Value}
end
end
local macro_rules | `(tactic| walk_at "call builtin:max") => `(tactic| (k_here; k_dflt (refine' max_figs ?hh ?fg ?F ?N ?hx ?_; (case hh => with_unfolding_all rfl); (case fg => assumption); (case F => k_asm); (case N => k_asm); (case hx => k_mem); k_whole; intro h' t' tk' F' N'; (try k_sweep))))
section
section
variable {w : World} {mean : ExcName → Option Value} {mg mb : Str → Option Value}
  {dp un : Nat} {gd : Option (List Code)} {cn : Str} {cs : Scope} {c Lc : Addr} {ccd : Value} {cl : List (Str × Addr)} {outer : List Env} {A₀ : Around} {base h₀ : Heap} {L : Addr} {m : Str → Option Value} {s : Shared} {news : List (Addr × Obj)} {E : Value → Shared → Prop} {Q : Flow → Shared → Prop}
  {k : Nat} {n1 n2 : Int} {a1 a2 : Addr} {tk t1 t2 t3 t4 t5 : Tok}
variable {fa : Addr} {cd : Value}
end
end
local macro_rules | `(tactic| walk_at "subscriptTail") => `(tactic| (k_here; (with_reducible show wpAny _ _ (subscriptTail _ _ (Value.ref _) (Value.int _ _)) _ _ _); k_dflt (refine' row_item' ?F ?X ?hk ?hi ?_; (case F => k_asm); (case X => k_in); (case hk => exact rfl); (case hi => with_reducible assumption); k_whole; intro t')))
section
section
variable {w : World} {mean : ExcName → Option Value} {mg mb : Str → Option Value}
  {dp un : Nat} {gd : Option (List Code)} {cn : Str} {cs : Scope} {c Lc : Addr} {ccd : Value} {cl : List (Str × Addr)} {outer : List Env} {A₀ : Around} {base h₀ : Heap} {L : Addr} {m : Str → Option Value} {s : Shared} {news : List (Addr × Obj)} {E : Value → Shared → Prop} {Q : Flow → Shared → Prop}
  {k : Nat} {n1 n2 : Int} {a1 a2 : Addr} {tk t1 t2 t3 t4 t5 : Tok}
variable {fa : Addr} {cd : Value}
theorem row_at {i : Nat} {x : Value} (h : rowL[i]? = some x) : i < 10 ∧ x = .str (nm i) (496 + i) := by
  have hi : i < 10 := by
    by_cases hi : i < 10
    · exact hi
    · rw [List.getElem?_eq_none (by show rowL.length ≤ i; show 10 ≤ i; omega)] at h
      cases h
  exact ⟨hi, (Option.some.inj ((row_get i hi).symm.trans h)).symm⟩
structure KindsR (is : List Nat) (news : List (Addr × Obj)) (i : Nat) (ys : List Value) (nw : List (Addr × Obj)) : Prop where
  out : NmsAre ys (is.take i) ∧ nw = news
theorem l3_if {D : Addr} {ys : List Value} {is : List Nat} (fg : Figs ys is) (hl5 : is.length ≤ 5) (hA : A₀ = callerA) (B : Below A₀ base [] h₀) (X : (KF w.params).In h₀) (T : Top Vw lo mean mg mb h₀)
    (F : Fr h₀ L s.heap (fun y => if y = Str.ofString "some" then some (.ref D) else m y)) (N : News h₀ L s.heap news) (hD : (D, LCg.lst ys) ∈ news)
    (hQ : ∀ h' tk, Fr h₀ L h' (fun y => if y = Str.ofString "some" then some (.ref D) else m y) → News h₀ L h' news → Q .next { s with heap := h', toks := tk })
    : wpAny (model Pr w) (A₀.deeper (envOfC (Str.ofString "law") (scopeAt w 309) L fa cd)) (exec (stmtAt w 309 3) (envOfC (Str.ofString "law") (scopeAt w 309) L fa cd)) Q E s := by
  subst hA
  conv in (occs := *) stmtAt _ _ _ => all_goals whnf
  conv in (occs := *) scopeAt _ _ => all_goals whnf
  have hsz : ys.toArray.size ≤ sizeLine := by rw [List.size_toArray, fg.length, sizeLine_eq]; omega
  k_steps
  refine Halt.mk ?_
  refine LCg.CompSrc.ledger (by rfl) (by k_asm) (by k_asm) hD hsz ?_
  intro g'
  refine compRest_ind (KindsR is news) ?step ?fin _ 0 [] _ (Nat.zero_add _) ⟨.nil, rfl⟩
  case step =>
    rintro i zs nw v I oI C oC D2 m₂ h' tk' E' hi ⟨na, rfl⟩ hP hC hx F1 N1 off ne
    obtain ⟨j, t, rfl, hj, b3⟩ := fg.get i v (by simpa using hP)
    clear hQ
    k_steps
    exact ⟨by rw [take_get hj]; exact na.snoc _ _, rfl⟩
  case fin =>
    rintro zs nw ⟨na, rfl⟩
    rw [List.size_toArray, fg.length, List.take_length] at na
    have hlt := fg.lt
    have hm10 := mxs_lt hlt
    k_steps
    · exact absurd (by assumption : (nm (mxs is) != nm (mxs is)) = true) (by simp)
    · exact hQ _ _ (by assumption) (drop1 (drop1 (drop1 (by assumption))))
end
end
local macro_rules | `(tactic| walk_at "call ref") => `(tactic| (k_here; (with_reducible show wpAny _ _ (call (Value.ref 167) [Value.str (nm _) _]) _ _ _); k_dflt (refine' use_V (isp_c _ _ _ _ _ _ ?hi) ?B ?F ?X ?N ?T ?hk ?dp ?un ?_; (case hi => with_reducible assumption); walk_at "use_args"; k_whole; intro t1' h' tk' F' N'; (try dsimp only at N'); (try k_sweep))))
section
section
variable {w : World} {mean : ExcName → Option Value} {mg mb : Str → Option Value}
  {dp un : Nat} {gd : Option (List Code)} {cn : Str} {cs : Scope} {c Lc : Addr} {ccd : Value} {cl : List (Str × Addr)} {outer : List Env} {A₀ : Around} {base h₀ : Heap} {L : Addr} {m : Str → Option Value} {s : Shared} {news : List (Addr × Obj)} {E : Value → Shared → Prop} {Q : Flow → Shared → Prop}
  {k : Nat} {n1 n2 : Int} {a1 a2 : Addr} {tk t1 t2 t3 t4 t5 : Tok}
variable {fa : Addr} {cd : Value}
theorem in_bools {prog : Program} {A : Around} {Q : Value → Shared → Prop} {D : Addr} {ys : List Value} (F : Fr h₀ L s.heap m) (N : News h₀ L s.heap news) (hx : (D, LCg.lst ys) ∈ news) (hy : ∀ y ∈ ys, y = .bool true)
    (h : Q (.bool false) s) : wpAny (model prog w) A (compareOp .In (.bool false) (.ref D)) Q E s :=
  SeqAt.in_listAt (items := ys.toArray) (fun _ => false) ⟨_, (N _ hx).1, rfl, _, rfl⟩ (fun y hy' => by
    rw [hy y (by simpa using hy')]
    exact SeqAt.EqAt.bool_bool true false) (by
    have e : (ys.toArray.any fun _ => false) = false := by rw [Array.any_eq_false]; intros; decide
    rw [e]; exact h)
end
end
local macro_rules | `(tactic| walk_at "compareOp In") => `(tactic| (k_here; k_dflt (refine' in_bools ?F ?N ?hx ?hy ?_; (case hy => assumption); (case F => k_asm); (case N => k_asm); (case hx => k_mem); k_whole)))
section
section
variable {w : World} {mean : ExcName → Option Value} {mg mb : Str → Option Value}
  {dp un : Nat} {gd : Option (List Code)} {cn : Str} {cs : Scope} {c Lc : Addr} {ccd : Value} {cl : List (Str × Addr)} {outer : List Env} {A₀ : Around} {base h₀ : Heap} {L : Addr} {m : Str → Option Value} {s : Shared} {news : List (Addr × Obj)} {E : Value → Shared → Prop} {Q : Flow → Shared → Prop}
  {k : Nat} {n1 n2 : Int} {a1 a2 : Addr} {tk t1 t2 t3 t4 t5 : Tok}
variable {fa : Addr} {cd : Value}
structure TruesR (news : List (Addr × Obj)) (i : Nat) (ys : List Value) (nw : List (Addr × Obj)) : Prop where
  out : (∀ y ∈ ys, y = .bool true) ∧ nw = news
theorem l4_if (hA : A₀ = callerA) (B : Below A₀ base [] h₀) (X : (KF w.params).In h₀) (T : Top Vw lo mean mg mb h₀)
    (F : Fr h₀ L s.heap m) (N : News h₀ L s.heap news) (hQ : ∀ h' tk, Fr h₀ L h' m → News h₀ L h' news → Q .next { s with heap := h', toks := tk })
    : wpAny (model Pr w) (A₀.deeper (envOfC (Str.ofString "law") (scopeAt w 309) L fa cd)) (exec (stmtAt w 309 4) (envOfC (Str.ofString "law") (scopeAt w 309) L fa cd)) Q E s := by
  have hR : h₀.IsList 245 rowL.toArray := ⟨_, row_heap X, rfl, 0, rfl⟩
  subst hA
  conv in (occs := *) stmtAt _ _ _ => all_goals whnf
  conv in (occs := *) scopeAt _ _ => all_goals whnf
  k_steps
  refine Halt.mk ?_
  refine LCg.CompSrc.base (ax := 245) (its := rowL.toArray) (by rfl) (by k_asm) (by k_asm) hR (by exact Nat.le_of_ble_eq_true rfl) ?_
  intro g'
  refine compRest_ind (TruesR _) ?step ?fin _ 0 [] _ (Nat.zero_add _) ⟨fun _ h => (List.not_mem_nil h).elim, rfl⟩
  case step =>
    rintro i zs nw v I oI C oC D2 m₂ h' tk' E' hi ⟨na, rfl⟩ hP hC hx F1 N1 off ne
    obtain ⟨b3, rfl⟩ := row_at (i := i) (x := v) (by simpa using hP)
    clear hQ
    k_steps
    refine ⟨fun y hy => ?_, rfl⟩
    rcases List.mem_append.mp hy with hy | hy
    · exact na y hy
    · exact List.mem_singleton.mp hy
  case fin =>
    rintro zs nw ⟨na, rfl⟩
    k_steps
    exact hQ _ _ (by assumption) (drop1 (drop1 (by assumption)))
end
end
section
section
variable {w : World} {mean : ExcName → Option Value} {mg mb : Str → Option Value}
  {dp un : Nat} {gd : Option (List Code)} {cn : Str} {cs : Scope} {c Lc : Addr} {ccd : Value} {cl : List (Str × Addr)} {outer : List Env} {A₀ : Around} {base h₀ : Heap} {L : Addr} {m : Str → Option Value} {s : Shared} {news : List (Addr × Obj)} {E : Value → Shared → Prop} {Q : Flow → Shared → Prop}
  {k : Nat} {n1 n2 : Int} {a1 a2 : Addr} {tk t1 t2 t3 t4 t5 : Tok}
variable {fa : Addr} {cd : Value}
theorem big_of {i : Nat} {n : Int} (hi : i < 10) (h1 : lowZ i ≤ n) (h2 : n ≤ highZ i) : BigOK n := ⟨Int.le_trans (low_9 i hi).1 h1, Int.le_trans h2 (low_9 i hi).2⟩
theorem big_bool (b : Bool) : BigOK (if b then 1 else 0) := by
  have e := low_9 0 (by decide)
  have l0 : lowZ 0 = 0 := rfl
  have h0 : highZ 0 = 1 := rfl
  rw [l0, h0] at e
  cases b
  · exact ⟨Int.le_trans e.1 (by decide), Int.le_trans (by decide) e.2⟩
  · exact ⟨Int.le_trans e.1 (by decide), Int.le_trans (by decide) e.2⟩
theorem value_v {Q : Value → Shared → Prop} {a : Addr} {d0 d1 : Int} {t0 t1 : Tok} {g : Obj → List (Addr × Obj)} (U : UpdF a (lstO d0 t0 d1 t1 0) news g) (h0 : 0 ≤ d0) (h1 : 0 ≤ d1)
    (B : Below A₀ base outer h₀) (F : Fr h₀ L s.heap m) (X : (KF w.params).In h₀) (N : News h₀ L s.heap news) (T : Top Vw lo mean mg mb h₀) (hk : cs.kind = .function)
    (hd' : dp + 24 < recursionLimit) (hu : un + 200 < cLine) (h : ∀ (x : Addr) (o : Obj) (i : Nat) (n e0 e1 : Int) (u0 u1 : Tok) (h' : Heap) (tk : Nat), 0 ≤ e0 → 0 ≤ e1 → VObj o i n → BigOK n → Fr h₀ L h' m → News h₀ L h' ((x, o) :: g (lstO e0 u0 e1 u1 0)) → (∀ q ∈ news, q.1 < x) → Q (.ref x) { s with heap := h', toks := tk }) :
    wpAny (model Pr w) (ktrTop dp un gd cn cs L c ccd cl outer) (call (.ref 271) [.ref a]) Q E s := by
  obtain ⟨pre, post, rfl, hg, n1, n2⟩ := U.split
  have ord : ∀ {x : Addr}, a < x → (∀ q ∈ pre ++ post, q.1 < x) → ∀ q ∈ pre ++ (a, lstO d0 t0 d1 t1 0) :: post, q.1 < x := fun ha hr q hq => by
    rcases List.mem_append.mp hq with hq | hq
    · exact hr q (List.mem_append_left _ hq)
    · rcases List.mem_cons.mp hq with rfl | hq
      · exact ha
      · exact hr q (List.mem_append_right _ hq)
  have back : ∀ {x : Addr} {o o' : Obj} {h' : Heap}, News h₀ L h' ((x, o) :: (a, o') :: (pre ++ post)) → News h₀ L h' ((x, o) :: g o') := fun N' p hp => by
    rw [hg] at hp
    rcases List.mem_cons.mp hp with rfl | hp
    · exact N' _ (.head _)
    rcases List.mem_append.mp hp with hp | hp
    · exact N' _ (.tail _ (.tail _ (List.mem_append_left _ hp)))
    · rcases List.mem_cons.mp hp with rfl | hp
      · exact N' _ (.tail _ (.head _))
      · exact N' _ (.tail _ (.tail _ (List.mem_append_right _ hp)))
  refine value_c w mean mg mb dp un gd cn cs c ccd cl outer A₀ base h₀ L m s a d0 d1 t0 t1 (pre ++ post) Q E B F X (fun p hp => N p ?_) T hk hd' hu (fun p hp => ?_) h0 h1
    (fun x b e0 e1 u0 u1 ub h' tk p0 p1 F' N' l1 l2 => h x _ 0 _ e0 e1 u0 u1 h' tk p0 p1 (.inr ⟨rfl, b, ub, rfl, rfl⟩) (big_bool b) F' (back N') (ord l1 l2))
    (fun x i n e0 e1 u0 u1 v1 v2 v3 h' tk i0 i1 r0 r1 p0 p1 F' N' l1 l2 => h x _ i n e0 e1 u0 u1 h' tk p0 p1 (.inl ⟨i0, i1, v1, v2, v3, rfl⟩) (big_of i1 r0 r1) F' (back N') (ord l1 l2))
  · rcases List.mem_cons.mp hp with rfl | hp
    · exact List.mem_append_right _ (.head _)
    · rcases List.mem_append.mp hp with hp | hp
      · exact List.mem_append_left _ hp
      · exact List.mem_append_right _ (.tail _ hp)
  · rcases List.mem_append.mp hp with hp | hp
    · exact n1 p hp
    · exact n2 p hp
theorem fr_back {g' h' : Heap} (K : KtsTurn [] h₀ g') (F : Fr g' L h' m) : Fr h₀ L h' m := ⟨F.ns, fun b o e => F.keep b o (K.other b o e (fun h => (List.not_mem_nil h).elim)), K.size ▸ F.above⟩
theorem news_back {g' h' : Heap} (K : KtsTurn [] h₀ g') (N : News g' L h' news) : News h₀ L h' news := fun p hp => ⟨(N p hp).1, (N p hp).2.1, by
  cases e : h₀.get? p.1 with
  | none => rfl
  | some o =>
    have z := K.other _ _ e (fun h => (List.not_mem_nil h).elim)
    rw [(N p hp).2.2] at z
    cases z⟩
abbrev posS : Pos := { line := 163, col := 21, endLine := 163, endCol := 54 }
end
end
local macro_rules | `(tactic| walk_at "exec For Name Call cons nil") => `(tactic| (k_here; (rename Fr _ _ _ _ => lF'); (with_unfolding_all refine' For_invVF lF' ?k1 ?k2 ?_; (case k1 => exact rfl); (case k2 => exact rfl); k_whole)))
section
section
variable {w : World} {mean : ExcName → Option Value} {mg mb : Str → Option Value}
  {dp un : Nat} {gd : Option (List Code)} {cn : Str} {cs : Scope} {c Lc : Addr} {ccd : Value} {cl : List (Str × Addr)} {outer : List Env} {A₀ : Around} {base h₀ : Heap} {L : Addr} {m : Str → Option Value} {s : Shared} {news : List (Addr × Obj)} {E : Value → Shared → Prop} {Q : Flow → Shared → Prop}
  {k : Nat} {n1 n2 : Int} {a1 a2 : Addr} {tk t1 t2 t3 t4 t5 : Tok}
variable {fa : Addr} {cd : Value}
end
end
local macro_rules | `(tactic| walk_at "call ref") => `(tactic| (k_here; (with_reducible show wpAny _ _ (call (Value.ref 271) _) _ _ _); k_dflt (refine' value_v ?U ?h0 ?h1 ?B ?F ?X ?N ?T ?hk ?dp ?un ?_; walk_at "use_args"; (case U => k_updF); (case h0 => assumption); (case h1 => assumption); k_whole; intro x' o' i' n' e0' e1' u0' u1' h' tk' p0' p1' V' big' F' N' l1; (try dsimp only at N'); (try k_lt l1); (try k_sweep))))
section
section
variable {w : World} {mean : ExcName → Option Value} {mg mb : Str → Option Value}
  {dp un : Nat} {gd : Option (List Code)} {cn : Str} {cs : Scope} {c Lc : Addr} {ccd : Value} {cl : List (Str × Addr)} {outer : List Env} {A₀ : Around} {base h₀ : Heap} {L : Addr} {m : Str → Option Value} {s : Shared} {news : List (Addr × Obj)} {E : Value → Shared → Prop} {Q : Flow → Shared → Prop}
  {k : Nat} {n1 n2 : Int} {a1 a2 : Addr} {tk t1 t2 t3 t4 t5 : Tok}
variable {fa : Addr} {cd : Value}
end
end
local macro_rules | `(tactic| walk_at "call ref") => `(tactic| (k_here; (first | (with_reducible show wpAny _ _ (call (Value.ref 297) _) _ _ _) | (with_reducible show wpAny _ _ (call (Value.ref 304) _) _ _ _)); refine Halt.out ?_))
section
section
variable {w : World} {mean : ExcName → Option Value} {mg mb : Str → Option Value}
  {dp un : Nat} {gd : Option (List Code)} {cn : Str} {cs : Scope} {c Lc : Addr} {ccd : Value} {cl : List (Str × Addr)} {outer : List Env} {A₀ : Around} {base h₀ : Heap} {L : Addr} {m : Str → Option Value} {s : Shared} {news : List (Addr × Obj)} {E : Value → Shared → Prop} {Q : Flow → Shared → Prop}
  {k : Nat} {n1 n2 : Int} {a1 a2 : Addr} {tk t1 t2 t3 t4 t5 : Tok}
variable {fa : Addr} {cd : Value}
theorem tab_mem {P : Addr} {pos : Pos} {q : Str} {l : List (Addr × Obj)} (h : TabL P pos q l) : ∃ ps, (P, tabObj ps) ∈ l := by
  rcases h with rfl | ⟨_, _, _, _, rfl, _⟩
  · exact ⟨_, .head _⟩
  · exact ⟨_, .tail _ (.head _)⟩
structure TurnJ (L da : Addr) (o1 : Obj) (i : Nat) (m : Str → Option Value) (nw : List (Addr × Obj)) : Prop where
  out : ∃ l2 l3 e0 e1 u0 u1, TabL 294 posP QP l2 ∧ TabL 299 posS QS l3 ∧ 0 ≤ e0 ∧ 0 ≤ e1 ∧ (∀ q ∈ l2, q.1 ≠ 299 ∧ q.1 ≠ da) ∧ (∀ q ∈ l3, q.1 ≠ 294 ∧ q.1 ≠ da) ∧ nw = (da, lstO e0 u0 e1 u1 0) :: (L + 1, o1) :: (l2 ++ l3)
theorem l6_for {o1 : Obj} {da : Addr} (hA : A₀ = callerA) (B : Below A₀ base [] h₀) (X : (KF w.params).In h₀) (T : Top Vw lo mean mg mb h₀) (XB : (KF w.params).In base) (TB : Top Vw lo mean mg mb base)
    (F : Fr h₀ L s.heap m) (N : News h₀ L s.heap news) (hJ : TurnJ L da o1 0 m news) (dd : o1.data = .cell (some (.ref da))) (hl : L + 1 < da) (hL : @LT.lt Nat _ 299 L)
    (hE : PassesOwn (model Pr w) (A₀.deeper (envOfC (Str.ofString "law") (scopeAt w 309) L fa cd)) (envOfC (Str.ofString "law") (scopeAt w 309) L fa cd) E)
    (hQ : ∀ h' tk m' news', Fr h₀ L h' m' → News h₀ L h' news' → (∃ ps, (294, tabObj ps) ∈ news') → (∃ ps, (299, tabObj ps) ∈ news') → Q .next { s with heap := h', toks := tk })
    : wpAny (model Pr w) (A₀.deeper (envOfC (Str.ofString "law") (scopeAt w 309) L fa cd)) (exec (stmtAt w 309 6) (envOfC (Str.ofString "law") (scopeAt w 309) L fa cd)) Q E s := by
  subst hA
  conv at hE in (occs := *) scopeAt _ _ => all_goals whnf
  conv in (occs := *) stmtAt _ _ _ => all_goals whnf
  conv in (occs := *) scopeAt _ _ => all_goals whnf
  k_steps
  refine Halt.mk ?_
  refine' range_inv (a₀ := 0) (b₀ := 6) (n := 6) (TurnJ L da o1) ?hh ?hr (by decide) (by decide) ?F ?N ?h0 ?_ ?_
  case hh => rfl
  case hr => assumption
  case F => assumption
  case N => assumption
  case h0 => exact hJ
  · intro i t m₁ news₁ h₁ tk₁ I oI hi hJ' hI F₁ N₁ Q' hQ'
    obtain ⟨l2, l3, e0, e1, u0, u1, TL2, TL3, p0, p1, n2, n3, rfl⟩ := hJ'.out
    obtain ⟨rest, hrest⟩ : ∃ r, r = (I, oI) :: (L + 1, o1) :: (l2 ++ l3) := ⟨_, rfl⟩
    have hIda : I ≠ da := fun e => hI _ (.head _) e.symm
    have hne : ∀ q ∈ rest, q.1 ≠ da := by
      rw [hrest]
      intro q hq
      rcases List.mem_cons.mp hq with rfl | hq
      · exact hIda
      rcases List.mem_cons.mp hq with rfl | hq
      · exact Nat.ne_of_lt hl
      rcases List.mem_append.mp hq with hq | hq
      · exact (n2 q hq).2
      · exact (n3 q hq).2
    have hc : (L + 1, o1) ∈ rest := by rw [hrest]; exact .tail _ (.head _)
    have m2 : ∀ q ∈ l2, q ∈ rest := fun q hq => by rw [hrest]; exact .tail _ (.tail _ (List.mem_append_left _ hq))
    have m3 : ∀ q ∈ l3, q ∈ rest := fun q hq => by rw [hrest]; exact .tail _ (.tail _ (List.mem_append_right _ hq))
    have mI : (I, oI) ∈ rest := by rw [hrest]; exact .head _
    have N₂ : News h₀ L h₁ ((da, lstO e0 u0 e1 u1 0) :: rest) := fun q hq => N₁ q (by
      rw [hrest] at hq
      simp only [List.mem_cons] at hq ⊢
      rcases hq with hq | hq | hq | hq <;> simp [hq])
    clear N₁ hQ hrest
    k_steps
    refine Halt.mk ?_
    rename_i x1 ob1 i1 n1 e0a e1a u0a u1a ha tka P0a P1a V1 b1 la x2 ob2 i2 nn2 e0b e1b u0b u1b hb tkb P0b P1b V2 b2 lb D h5 lD h6 h7 h8 F5 N5
    obtain ⟨o4, m4⟩ := TL2.mem
    obtain ⟨o9, m9⟩ := TL3.mem
    have I4 : (294 : Addr) ≠ I := hI _ (.tail _ (.tail _ (List.mem_append_left _ m4)))
    have I9 : (299 : Addr) ≠ I := hI _ (.tail _ (.tail _ (List.mem_append_right _ m9)))
    have g4 : ∀ {x : Addr}, da < x → x ≠ 294 := fun {x} h => Nat.ne_of_gt (Nat.lt_trans (show @LT.lt Nat _ 294 da from by have h1 : @LT.lt Nat _ 299 L := hL; have h2 : @LT.lt Nat _ (L + 1) da := hl; omega) h)
    have g9 : ∀ {x : Addr}, da < x → x ≠ 299 := fun {x} h => Nat.ne_of_gt (Nat.lt_trans (show @LT.lt Nat _ 299 da from by have h1 : @LT.lt Nat _ 299 L := hL; have h2 : @LT.lt Nat _ (L + 1) da := hl; omega) h)
    have d4 : da ≠ 294 := Nat.ne_of_gt (show @LT.lt Nat _ 294 da from by have h1 : @LT.lt Nat _ 299 L := hL; have h2 : @LT.lt Nat _ (L + 1) da := hl; omega)
    have d9 : da ≠ 299 := Nat.ne_of_gt (show @LT.lt Nat _ 299 da from by have h1 : @LT.lt Nat _ 299 L := hL; have h2 : @LT.lt Nat _ (L + 1) da := hl; omega)
    have c4 : L + 1 ≠ 294 := Nat.ne_of_gt (show @LT.lt Nat _ 294 (L + 1) from by have h1 : @LT.lt Nat _ 299 L := hL; omega)
    have c9 : L + 1 ≠ 299 := Nat.ne_of_gt (show @LT.lt Nat _ 299 (L + 1) from by have h1 : @LT.lt Nat _ 299 L := hL; omega)
    refine pair_c (l := l2) (news := (x2, ob2) :: (x1, ob1) :: (da, lstO e0b u0b e1b u1b 0) :: (L + 1, o1) :: (I, oI) :: l3) TL2 b1 b2 V1 V2 (.tail _ (.head _)) (.head _) ?hne (Nat.ne_of_lt lb.1) B F5 X ?N T XB TB ktsDicts_nil rfl ?dp ?un ?_
    case hne =>
      intro q hq
      simp only [List.mem_cons] at hq
      rcases hq with rfl | rfl | rfl | rfl | rfl | hq
      · exact g4 lb.2.1
      · exact g4 la.1
      · exact d4
      · exact c4
      · exact I4.symm
      · exact (n3 q hq).1
    case N =>
      intro q hq
      refine N5 q ?_
      simp only [List.mem_cons, List.mem_append] at hq ⊢
      rcases hq with hq | hq | hq | hq | hq | hq | hq
      · exact .inr (.inr (.inr (.inr (m2 q hq))))
      · simp [hq]
      · simp [hq]
      · simp [hq]
      · exact .inr (.inr (.inr (.inr (hq ▸ hc))))
      · exact .inr (.inr (.inr (.inr (hq ▸ mI))))
      · exact .inr (.inr (.inr (.inr (m3 q hq))))
    case dp => k_room
    case un => first | k_units | k_room
    intro l2' g9' h9 tk9 TL2' ord2 K9 F9 N9 B9
    replace F9 := fr_back K9 F9
    replace N9 := news_back K9 N9
    clear B9 K9 g9' F5 N5
    have q2 : ∀ q ∈ l2', q.1 ≠ 299 ∧ q.1 ≠ da := fun q hq => by
      rcases ord2 q hq with e | e | e
      · rw [e]; exact ⟨by decide, d4.symm⟩
      · exact n2 q e
      · exact ⟨Nat.ne_of_gt (e _ (.tail _ (.tail _ (.tail _ (.tail _ (.tail _ m9)))))), Nat.ne_of_gt (e _ (.tail _ (.tail _ (.head _))))⟩
    have qI : ∀ q ∈ l2', q.1 ≠ I := fun q hq => by
      rcases ord2 q hq with e | e | e
      · rw [e]; exact I4
      · exact hI q (.tail _ (.tail _ (List.mem_append_left _ e)))
      · exact Nat.ne_of_gt (e (I, oI) (.tail _ (.tail _ (.tail _ (.tail _ (.head _))))))
    obtain ⟨rst2, hrst2⟩ : ∃ r, r = (x2, ob2) :: (x1, ob1) :: (L + 1, o1) :: (I, oI) :: (l2' ++ l3) := ⟨_, rfl⟩
    have hne2 : ∀ q ∈ rst2, q.1 ≠ da := by
      rw [hrst2]
      intro q hq
      simp only [List.mem_cons, List.mem_append] at hq
      rcases hq with rfl | rfl | rfl | rfl | hq | hq
      · exact Nat.ne_of_gt lb.2.1
      · exact Nat.ne_of_gt la.1
      · exact Nat.ne_of_lt hl
      · exact hIda
      · exact (q2 q hq).2
      · exact (n3 q hq).2
    have hc2 : (L + 1, o1) ∈ rst2 := by rw [hrst2]; exact .tail _ (.tail _ (.head _))
    have k1 : (x1, ob1) ∈ rst2 := by rw [hrst2]; exact .tail _ (.head _)
    have kI : (I, oI) ∈ rst2 := by rw [hrst2]; exact .tail _ (.tail _ (.tail _ (.head _)))
    have k2 : ∀ q ∈ l2', q ∈ rst2 := fun q hq => by rw [hrst2]; exact .tail _ (.tail _ (.tail _ (.tail _ (List.mem_append_left _ hq))))
    have k3 : ∀ q ∈ l3, q ∈ rst2 := fun q hq => by rw [hrst2]; exact .tail _ (.tail _ (.tail _ (.tail _ (List.mem_append_right _ hq))))
    have N10 : News h₀ L h9 ((da, lstO e0b u0b e1b u1b 0) :: rst2) := fun q hq => N9 q (by
      rw [hrst2] at hq
      simp only [List.mem_cons, List.mem_append] at hq ⊢
      rcases hq with hq | hq | hq | hq | hq | hq | hq <;> simp [hq])
    clear N9 hrst2 lD
    k_steps
    refine Halt.mk ?_
    rename_i e0c e1c r u0c u1c urc h11 tk11 P0c P1c r0 r10 F11 N11
    refine single_c (k := r.toNat) (l := l3) (news := (x1, ob1) :: (da, lstO e0c u0c e1c u1c 0) :: (L + 1, o1) :: (I, oI) :: l2') TL3 ?hi b1 V1 (.head _) ?hne B F11 X ?N T XB TB ktsDicts_nil rfl ?dp ?un ?_
    case hi => omega
    case hne =>
      intro q hq
      simp only [List.mem_cons] at hq
      rcases hq with rfl | rfl | rfl | rfl | hq
      · exact g9 la.1
      · exact d9
      · exact c9
      · exact I9.symm
      · exact (q2 q hq).1
    case N =>
      intro q hq
      refine N11 q ?_
      simp only [List.mem_cons, List.mem_append] at hq ⊢
      rcases hq with hq | hq | hq | hq | hq | hq
      · exact .inr (k3 q hq)
      · exact .inr (hq ▸ k1)
      · simp [hq]
      · exact .inr (hq ▸ hc2)
      · exact .inr (hq ▸ kI)
      · exact .inr (k2 q hq)
    case dp => k_room
    case un => first | k_units | k_room
    intro l3' g12 h12 tk12 TL3' ord3 K12 F12 N12 B12
    replace F12 := fr_back K12 F12
    replace N12 := news_back K12 N12
    clear B12 K12 g12 F11 N11
    have N13 : News h₀ L h12 ((I, oI) :: (da, lstO e0c u0c e1c u1c 0) :: (L + 1, o1) :: (l2' ++ l3')) := fun q hq => N12 q (by
      simp only [List.mem_cons, List.mem_append] at hq ⊢
      rcases hq with hq | hq | hq | hq | hq <;> simp [hq])
    have q3 : ∀ q ∈ l3', q.1 ≠ 294 ∧ q.1 ≠ da ∧ q.1 ≠ I := fun q hq => by
      rcases ord3 q hq with e | e | e
      · rw [e]; exact ⟨by decide, d9.symm, I9⟩
      · exact ⟨(n3 q e).1, (n3 q e).2, hI q (.tail _ (.tail _ (List.mem_append_right _ e)))⟩
      · obtain ⟨o4', m4'⟩ := TL2'.mem
        exact ⟨Nat.ne_of_gt (e _ (.tail _ (.tail _ (.tail _ (.tail _ m4'))))), Nat.ne_of_gt (e _ (.tail _ (.head _))), Nat.ne_of_gt (e _ (.tail _ (.tail _ (.tail _ (.head _)))))⟩
    clear N12
    k_steps
    refine hQ' _ _ _ _ F12 N13 ?_ ⟨l2', l3', _, _, _, _, TL2', TL3', P0c, P1c, q2, fun q hq => ⟨(q3 q hq).1, (q3 q hq).2.1⟩, rfl⟩
    intro p hp
    simp only [List.mem_cons, List.mem_append] at hp
    rcases hp with rfl | rfl | hp | hp
    · exact hIda.symm
    · exact hI _ (.tail _ (.head _))
    · exact qI p hp
    · exact (q3 p hp).2.2
  · intro m₁ news₁ h₁ tk₁ hJ9 F₁ N₁
    obtain ⟨l2, l3, e0, e1, u0, u1, TL2, TL3, p0, p1, n2, n3, rfl⟩ := hJ9.out
    obtain ⟨ps2, k2⟩ := tab_mem TL2
    obtain ⟨ps3, k3⟩ := tab_mem TL3
    exact hQ _ _ _ _ F₁ N₁ ⟨ps2, .tail _ (.tail _ (List.mem_append_left _ k2))⟩ ⟨ps3, .tail _ (.tail _ (List.mem_append_right _ k3))⟩
end
end
section
variable (w : World) (mean : ExcName → Option Value) (mg mb : Str → Option Value) (news : List (Addr × Obj)) (tk t1 t2 t3 : Tok) (kind : Str) (n : Int) (a b : Addr) (o : Obj)
variable (i j : Nat)
section
variable {w : World} {mean : ExcName → Option Value} {mg mb : Str → Option Value}
  {dp un : Nat} {gd : Option (List Code)} {cn : Str} {cs : Scope} {c Lc : Addr} {ccd : Value} {cl : List (Str × Addr)} {outer : List Env} {A₀ : Around} {base h₀ : Heap} {L : Addr} {m : Str → Option Value} {s : Shared} {news : List (Addr × Obj)} {E : Value → Shared → Prop} {Q : Flow → Shared → Prop}
  {k : Nat} {n1 n2 : Int} {a1 a2 : Addr} {tk t1 t2 t3 t4 t5 : Tok}
variable {fa : Addr} {cd : Value}
theorem deep_x (n : Int) : 0 ≤ (if n < 0 then -n else n) * 2 + (if decide (n < 0) = true then 1 else 0) := by
  split <;> split <;> omega
theorem deep_0 (n : Int) (c : Prop) [Decidable c] : 0 ≤ ((if n < 0 then -n else n) * 2 + (if decide (n < 0) = true then 1 else 0)) * (if decide c = true then 1 else 0) :=
  Int.mul_nonneg (deep_x n) (by split <;> decide)
theorem deep_1 (x : Int) : 0 ≤ x.fmod 2147483423 + 7 := by
  have := fmod_nn x (b := 2147483423) (by decide)
  omega
theorem l0_deep {o1 : Obj} {v1 : Option Value} {sa : Addr} {vs : List Value} {ns : List Int} (hA : A₀ = callerA) (B : Below A₀ base [] h₀) (X : (KF w.params).In h₀) (T : Top Vw lo mean mg mb h₀)
    (hs : base.IsList sa vs.toArray) (hi : IntsAre vs ns) (hlen : ns.length ≤ 63)
    (F : Fr h₀ L s.heap (fun y => if y = Str.ofString "script" then some (.ref sa) else m y)) (N : News h₀ L s.heap ((L + 1, o1) :: news)) (n1 : ∀ q ∈ news, q.1 ≠ L + 1) (d1 : o1.data = .cell v1)
    (hQ : ∀ d0 d1 t0 t1 da o1' h' tk, 0 ≤ d0 → 0 ≤ d1 → Fr h₀ L h' (fun y => if y = Str.ofString "script" then some (.ref sa) else m y) → News h₀ L h' ((da, lstO d0 t0 d1 t1 0) :: (L + 1, o1') :: news) → o1'.data = .cell (some (.ref da)) → L + 1 < da → (∀ q ∈ news, q.1 < da) → Q .next { s with heap := h', toks := tk })
    : wpAny (model Pr w) (A₀.deeper (envOfC (Str.ofString "law") (scopeAt w 309) L fa cd)) (exec (stmtAt w 309 0) (envOfC (Str.ofString "law") (scopeAt w 309) L fa cd)) Q E s := by
  subst hA
  conv in (occs := *) stmtAt _ _ _ => all_goals whnf
  conv in (occs := *) scopeAt _ _ => all_goals whnf
  k_steps
  all_goals rename _ < _ ∧ AllLt _ _ => zl
  all_goals exact hQ _ _ _ _ _ _ _ _ (deep_0 _ _) (deep_1 _) (by assumption) (by assumption) (by assumption) zl.1 (lt_allLt zl.2)
section
variable {prog : Program} {A : Around} {env : Env}
theorem enum_ground {elts : List Expr} {k : Nat} {pos : Pos} {body : List Stmt} {l : Addr} {lo : Obj} {vs : List Value} {n : Nat} {m₀ : Str → Option Value} {J : Nat → (Str → Option Value) → Prop}
    (hh : A.handled = none) (F : Fr h₀ env.locals s.heap m₀) (N : News h₀ env.locals s.heap news) (hl0 : h₀.get? l = some lo) (hc : lo.cls = .type "list") (hd : lo.data = .seq vs.toArray n) (h0 : J 0 m₀)
    (step : ∀ (i : Nat) (x : Value) (T : Addr) (t : Tok) (m₁ : Str → Option Value) (own : List (Addr × Obj)) (h₁ : Heap) (tk₁ : Nat), vs[i]? = some x → J i m₁ → Fr h₀ env.locals h₁ m₁ → News h₀ env.locals h₁ (news ++ own) → IsTup h₁ T #[.int (i : Int) t, x] →
      ∀ Q' : Flow → Shared → Prop, (∀ h' tk m₂, Fr h₀ env.locals h' m₂ → News h₀ env.locals h' (news ++ own) → J (i + 1) m₂ → Q' .next { s with heap := h', toks := tk }) →
        wpAny (model prog w) A (assign (.Tuple elts k pos) env (.ref T)) (fun _ s₂ => wpAny (model prog w) A (execs body env) Q' E s₂) E { s with heap := h₁, toks := tk₁ })
    (fin : ∀ h' tk m', Fr h₀ env.locals h' m' → News h₀ env.locals h' news → J vs.length m' → Q .next { s with heap := h', toks := tk }) :
    wpAny (model prog w) A (call (.type "enumerate") [.ref l]) (fun xv s₁ => wpAny (model prog w) A (pyIter xv) (fun it s₂ => TurnsAt prog w A h₀ env (.Tuple elts k pos) body Q E it s₂) E s₁) E s := by
  have hl : s.heap.IsList l vs.toArray := ⟨lo, F.keep _ _ hl0, hc, n, hd⟩
  have hlt : l < s.heap.objs.size := Heap.lt_size (F.keep _ _ hl0)
  have hLs : env.locals < s.heap.objs.size := F.ns.lt
  refine call_enumerate_list hl fun h' hE hI hsz hk => ?_
  refine wpAny_pyIter_enum hE ?_
  refine ⟨s.heap.objs.size + 1, _, _, vs.toArray.size, _, _, _, m₀, news, fun i m n' => n' = news ∧ J i m, rfl, KTurns.ofWalksU (WalksT.enumerate hh (s.heap.objs.size + 1) s.heap.objs.size l (Nat.succ_ne_self _) (ktu_ne 1 hlt) (Nat.ne_of_lt hlt) vs.toArray).toU, ?_, ?_, ?_, ?_, F.keeps hk, N.grown hk, ⟨rfl, h0⟩, ?_, ?_⟩
  · intro hI'
    have hb' : env.locals = s.heap.objs.size + 1 ∨ env.locals = s.heap.objs.size ∨ env.locals = l := by simpa using hI'
    rcases hb' with e | e | e
    · exact ktu_ne 1 hLs e
    · exact Nat.ne_of_lt hLs e
    · have := kts_self F
      rw [e, hl0] at this
      cases this
  · intro b hb
    have hb' : b = s.heap.objs.size + 1 ∨ b = s.heap.objs.size := by simpa using hb
    rcases hb' with rfl | rfl
    · exact ktu_new F (Nat.le_add_right _ _)
    · exact ktu_new F (Nat.le_refl _)
  · intro p hp hI'
    have hb' : p.1 = s.heap.objs.size + 1 ∨ p.1 = s.heap.objs.size := by simpa using hI'
    have hlp := Heap.lt_size (N p hp).1
    rcases hb' with e | e
    · exact ktu_ne 1 hlp e
    · exact Nat.ne_of_lt hlp e
  · exact ⟨⟨.none, hE⟩, hI, hl.at fun o e => hk l o e⟩
  · intro i v m₁ news₁ h₁ tk₁ own hin hP hJ hoff hown hget hall hst F₁ N₁
    obtain ⟨rfl, hJ⟩ := hJ
    obtain ⟨T, vals, rfl, ⟨t, x, hx, rfl⟩, hT⟩ := hP
    refine step i x T t m₁ own h₁ tk₁ (by simpa using hx) hJ F₁ (fun q hq => N₁ q (by rcases List.mem_append.mp hq with z | z; exact List.mem_append_right _ z; exact List.mem_append_left _ z)) hT _ fun h'' tk m₂ F₂ N₂ hJ₂ => ?_
    exact LoopStepV.next (LoopStepU.intro F₂ (fun q hq => N₂ q (by rcases List.mem_append.mp hq with z | z; exact List.mem_append_right _ z; exact List.mem_append_left _ z)) hoff ⟨rfl, hJ₂⟩)
  · intro h'' tk m' news' F' N' _ hJ
    obtain ⟨rfl, hJ⟩ := hJ
    exact fin h'' tk m' F' N' (by simpa using hJ)
end
end
end
local macro_rules | `(tactic| walk_at "exec For Tuple Call cons nil") => `(tactic| (k_here; (with_reducible show wpAny _ _ (exec (Stmt.For (Expr.Tuple _ _ _) _ _ _ _) _) _ _ _); (rename Fr _ _ _ _ => lF'); (with_unfolding_all refine' For_turns lF' ?_; k_whole)))
section
variable (w : World) (mean : ExcName → Option Value) (mg mb : Str → Option Value) (news : List (Addr × Obj)) (tk t1 t2 t3 : Tok) (kind : Str) (n : Int) (a b : Addr) (o : Obj)
variable (i j : Nat)
section
variable {w : World} {mean : ExcName → Option Value} {mg mb : Str → Option Value}
  {dp un : Nat} {gd : Option (List Code)} {cn : Str} {cs : Scope} {c Lc : Addr} {ccd : Value} {cl : List (Str × Addr)} {outer : List Env} {A₀ : Around} {base h₀ : Heap} {L : Addr} {m : Str → Option Value} {s : Shared} {news : List (Addr × Obj)} {E : Value → Shared → Prop} {Q : Flow → Shared → Prop}
  {k : Nat} {n1 n2 : Int} {a1 a2 : Addr} {tk t1 t2 t3 t4 t5 : Tok}
variable {fa : Addr} {cd : Value}
end
end
local macro_rules | `(tactic| walk_at "call type:enumerate") => `(tactic| (fail "here"))
section
variable (w : World) (mean : ExcName → Option Value) (mg mb : Str → Option Value) (news : List (Addr × Obj)) (tk t1 t2 t3 : Tok) (kind : Str) (n : Int) (a b : Addr) (o : Obj)
variable (i j : Nat)
section
variable {w : World} {mean : ExcName → Option Value} {mg mb : Str → Option Value}
  {dp un : Nat} {gd : Option (List Code)} {cn : Str} {cs : Scope} {c Lc : Addr} {ccd : Value} {cl : List (Str × Addr)} {outer : List Env} {A₀ : Around} {base h₀ : Heap} {L : Addr} {m : Str → Option Value} {s : Shared} {news : List (Addr × Obj)} {E : Value → Shared → Prop} {Q : Flow → Shared → Prop}
  {k : Nat} {n1 n2 : Int} {a1 a2 : Addr} {tk t1 t2 t3 t4 t5 : Tok}
variable {fa : Addr} {cd : Value}
theorem l1_loops (hA : A₀ = callerA) (B : Below A₀ base [] h₀) (X : (KF w.params).In h₀) (T : Top Vw lo mean mg mb h₀)
    (F : Fr h₀ L s.heap m) (N : News h₀ L s.heap news) (hE : PassesOwn (model Pr w) (A₀.deeper (envOfC (Str.ofString "law") (scopeAt w 309) L fa cd)) (envOfC (Str.ofString "law") (scopeAt w 309) L fa cd) E) (hQ : ∀ h' tk m', Fr h₀ L h' m' → News h₀ L h' news → Q .next { s with heap := h', toks := tk })
    : wpAny (model Pr w) (A₀.deeper (envOfC (Str.ofString "law") (scopeAt w 309) L fa cd)) (exec (stmtAt w 309 1) (envOfC (Str.ofString "law") (scopeAt w 309) L fa cd)) Q E s := by
  subst hA
  conv at hE in (occs := *) scopeAt _ _ => all_goals whnf
  conv in (occs := *) stmtAt _ _ _ => all_goals whnf
  conv in (occs := *) scopeAt _ _ => all_goals whnf
  k_steps
  refine' enum_ground (J := fun _ _ => True) (l := 245) (vs := rowL) ?hh ?F ?N ?hl ?hc ?hd trivial ?_ ?_
  case hh => rfl
  case F => assumption
  case N => exact N
  case hl => exact row_heap X
  case hc => rfl
  case hd => rfl
  · intro i x T t m₁ own h₁ tk₁ hx _ F₁ N₁ hT Q' hQ'
    obtain ⟨hi, rfl⟩ := row_at hx
    k_steps
    refine' enum_ground (J := fun _ m => m (Str.ofString "one") = some (.str (nm i) (496 + i)) ∧ m (Str.ofString "left") = some (.int i t)) (l := 245) (vs := rowL) ?hh ?F ?N ?hl ?hc ?hd ?h0 ?_ ?_
    case hh => rfl
    case F => assumption
    case N => assumption
    case hl => exact row_heap X
    case hc => rfl
    case hd => rfl
    case h0 => exact ⟨rfl, rfl⟩
    · intro j x T2 t2 m₂ own2 h₂ tk₂ hx2 hJ F₂ N₂ hT2 Q2 hQ2
      obtain ⟨hj, rfl⟩ := row_at hx2
      have b3 : max i j < 10 := by omega
      have F₃ := Fr.two F₂ hJ.1 hJ.2
      clear F₂
      k_steps
      · exact absurd (by assumption : (nm (max i j) != nm (max i j)) = true) (by simp)
      · exact hQ2 _ _ _ (by assumption) (by assumption) ⟨rfl, rfl⟩
    · intro h' tk m' F' N' _
      exact wpAny_execs_nil (hQ' h' tk m' F' N' trivial)
  · intro h' tk m' F' N' _
    exact hQ _ _ _ F' N'
theorem l5_if (hA : A₀ = callerA) (B : Below A₀ base [] h₀) (X : (KF w.params).In h₀) (T : Top Vw lo mean mg mb h₀)
    (F : Fr h₀ L s.heap m) (N : News h₀ L s.heap news) (hQ : ∀ h' tk, Fr h₀ L h' m → News h₀ L h' news → Q .next { s with heap := h', toks := tk })
    : wpAny (model Pr w) (A₀.deeper (envOfC (Str.ofString "law") (scopeAt w 309) L fa cd)) (exec (stmtAt w 309 5) (envOfC (Str.ofString "law") (scopeAt w 309) L fa cd)) Q E s := by
  subst hA
  conv in (occs := *) stmtAt _ _ _ => all_goals whnf
  conv in (occs := *) scopeAt _ _ => all_goals whnf
  k_steps
  exact hQ _ _ (by assumption) (drop1 (drop1 (drop1 (drop1 (drop1 (drop1 (by assumption)))))))
end
end
section
section
variable {w : World} {mean : ExcName → Option Value} {mg mb : Str → Option Value}
  {dp un : Nat} {gd : Option (List Code)} {cn : Str} {cs : Scope} {c Lc : Addr} {ccd : Value} {cl : List (Str × Addr)} {outer : List Env} {A₀ : Around} {base h₀ : Heap} {L : Addr} {m : Str → Option Value} {s : Shared} {news : List (Addr × Obj)} {E : Value → Shared → Prop} {Q : Flow → Shared → Prop}
  {k : Nat} {n1 n2 : Int} {a1 a2 : Addr} {tk t1 t2 t3 t4 t5 : Tok}
variable {fa : Addr} {cd : Value}
/-- the statements of the def at f -/
noncomputable def bodyAt (w : World) (f : Addr) : List Stmt := match (KF w.params).lookup f with
  | some o => match o.data with
    | .func fd => match fd.body with
      | .stmts b => b
      | _ => []
    | _ => []
  | none => []
theorem body_is (w : World) : bodyAt w 309 = [stmtAt w 309 0, stmtAt w 309 1, stmtAt w 309 2, stmtAt w 309 3, stmtAt w 309 4, stmtAt w 309 5, stmtAt w 309 6, stmtAt w 309 7] := by rfl
theorem l7_ret (hA : A₀ = callerA) (hQ : Q (.ret (.bool true)) s)
    : wpAny (model Pr w) (A₀.deeper (envOfC (Str.ofString "law") (scopeAt w 309) L fa cd)) (exec (stmtAt w 309 7) (envOfC (Str.ofString "law") (scopeAt w 309) L fa cd)) Q E s := by
  subst hA
  conv in (occs := *) stmtAt _ _ _ => all_goals whnf
  conv in (occs := *) scopeAt _ _ => all_goals whnf
  k_steps
  exact hQ
theorem law_body {o1 : Obj} {v1 : Option Value} {sa : Addr} {vs : List Value} {ns : List Int} (hA : A₀ = callerA) (B : Below A₀ base [] h₀) (X : (KF w.params).In h₀) (T : Top Vw lo mean mg mb h₀) (XB : (KF w.params).In base) (TB : Top Vw lo mean mg mb base)
    (hs : base.IsList sa vs.toArray) (hi : IntsAre vs ns) (hlen : ns.length ≤ 63) (hL : @LT.lt Nat _ 299 L)
    (F : Fr h₀ L s.heap (fun y => if y = Str.ofString "script" then some (.ref sa) else m y)) (N : News h₀ L s.heap [(L + 1, o1), (299, tabObj #[]), (294, tabObj #[])]) (d1 : o1.data = .cell v1)
    (hE : PassesOwn (model Pr w) (A₀.deeper (envOfC (Str.ofString "law") (scopeAt w 309) L fa cd)) (envOfC (Str.ofString "law") (scopeAt w 309) L fa cd) E)
    (hQ : ∀ h' tk m' news', Fr h₀ L h' m' → News h₀ L h' news' → (∃ ps, (294, tabObj ps) ∈ news') → (∃ ps, (299, tabObj ps) ∈ news') → Q (.ret (.bool true)) { s with heap := h', toks := tk })
    : wpAny (model Pr w) (A₀.deeper (envOfC (Str.ofString "law") (scopeAt w 309) L fa cd)) (execs (bodyAt w 309) (envOfC (Str.ofString "law") (scopeAt w 309) L fa cd)) Q E s := by
  have n1 : ∀ q ∈ ([(299, tabObj #[]), (294, tabObj #[])] : List (Addr × Obj)), q.1 ≠ L + 1 := fun q hq => by
    simp only [List.mem_cons, List.not_mem_nil, or_false] at hq
    rcases hq with rfl | rfl
    · exact Nat.ne_of_lt (show @LT.lt Nat _ 299 (L + 1) from Nat.lt_succ_of_lt hL)
    · exact Nat.ne_of_lt (show @LT.lt Nat _ 294 (L + 1) from Nat.lt_trans (by decide) (Nat.lt_succ_of_lt hL))
  rw [body_is]
  refine wpAny_execs_cons ?_
  refine l0_deep hA B X T hs hi hlen F N n1 d1 ?_
  intro d0 d1' t0 t1 da o1' h1 tk1 p0 p1 F1 N1 c1 x1 x2
  have n2 : ∀ q ∈ ([(299, tabObj #[]), (294, tabObj #[])] : List (Addr × Obj)), q.1 ≠ da := fun q hq => Nat.ne_of_lt (x2 q hq)
  refine wpAny_execs_cons ?_
  refine l1_loops hA B X T F1 N1 hE ?_
  intro h2 tk2 m2 F2 N2
  refine wpAny_execs_cons ?_
  refine l2_some hA B X T p0 p1 F2 N2 c1 x1 n2 ?_
  intro D ys is e0 e1 u0 u1 h3 tk3 q0 q1 fg h5 F3 N3 of3
  refine wpAny_execs_cons ?_
  refine l3_if fg h5 hA B X T F3 N3 (.head _) ?_
  intro h4 tk4 F4 N4
  refine wpAny_execs_cons ?_
  refine l4_if hA B X T F4 N4 ?_
  intro h6 tk6 F6 N6
  refine wpAny_execs_cons ?_
  refine l5_if hA B X T F6 N6 ?_
  intro h7 tk7 F7 N7
  refine wpAny_execs_cons ?_
  refine l6_for hA B X T XB TB (news := (da, lstO e0 u0 e1 u1 0) :: (L + 1, o1') :: ([(294, tabObj #[])] ++ [(299, tabObj #[])])) F7 (fun q hq => N7 q ?zN) ⟨[(294, tabObj #[])], [(299, tabObj #[])], e0, e1, u0, u1, .inl rfl, .inl rfl, q0, q1, ?z2, ?z3, rfl⟩ c1 x1 hL hE ?_
  case zN =>
    simp only [List.mem_cons, List.mem_append, List.not_mem_nil, or_false] at hq ⊢
    rcases hq with hq | hq | hq | hq <;> simp [hq]
  case z2 =>
    intro q hq
    rw [List.mem_singleton.mp hq]
    exact ⟨by decide, n2 (294, tabObj #[]) (.tail _ (.head _))⟩
  case z3 =>
    intro q hq
    rw [List.mem_singleton.mp hq]
    exact ⟨by decide, n2 (299, tabObj #[]) (.head _)⟩
  intro h8 tk8 m8 nw8 F8 N8 y4 y9
  refine wpAny_execs_cons ?_
  refine l7_ret hA ?_
  exact hQ h8 tk8 m8 nw8 F8 N8 y4 y9
end
theorem main : PySem.Challenge.rw_pc0194_01.Holds := by
  w_on
  refine holds_law said_ fun said => ?_
  refine holds_open (q := qv) (loose := lo3) (Xt := Xt3) (XP := XL qv []) (Yf := Hook.obs HK) (Ya := Hook.val HK) (YP := Hook.says HK) (N := 3736) left_is (Hook.of HK) (Hook.keeps HK) (fun s e => xl_of s (Bool.and_eq_true_iff.mp e).1) XL.keeps (by rfl) (by rfl) (by rfl) (fun s e => recFacts_of (Bool.and_eq_true_iff.mp e).2) (by rfl) (by first | assumption | decide +kernel) (by decide +kernel) ⟨rfl, rfl, rfl, rfl, rfl, by decide +kernel⟩ ?hw ?hc
  (case hw => w_witness2)
  k_go0
  (all_goals try k_fold)
  rename Frag.In _ (ghostOf _ _) => X'
  rename Top topProg _ _ _ _ (ghostOf _ _) => T'
  rename Below _ _ _ _ => K'
  rename Fr _ _ _ _ => F'
  rename Heap.IsList (ghostOf _ _) _ _ => lifted
  rename News _ _ _ _ => N'
  rename IntsAre _ _ => hI
  rename _ < _ ∧ _ < _ => l0
  rename Obj.data _ = Data.cell _ => dcell
  rename ¬ (_ : Int) < _ => hlen
  have T2 : Top Vw lo _ _ _ _ := T'
  refine law_body rfl K' X' T2 X' T2 lifted hI (by omega) l0.1 (m := fun _ => none) F' N' dcell (by passes_own) ?_
  intro h9 tk9 m9 nw9 F9 N9 ⟨ps4, y4⟩ ⟨ps9, y9⟩
  refine ⟨?_, GrownAt.of N9 y9, GrownAt.of N9 y4, trivial⟩
  refine goodW_bool F9 (by assumption) (raisesW_false ?_) ?_
  · wrow_none_raised
  · wrow_post
end
end Mine
set_option maxRecDepth 100000 in
set_option maxHeartbeats 8000000 in
theorem PySem.Challenge.cw_pc0194_01_holds : PySem.Challenge.rw_pc0194_01.Holds := by
  exact Mine.main
