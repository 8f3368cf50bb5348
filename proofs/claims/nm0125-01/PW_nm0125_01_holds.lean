import PyProof.Rows.All
import Wide.All
import OpenK.AllK
import Wide.FinOn
import PySem.Challenge.RW_nm0125_01
open PySem PySem.W PySem.Spec PySem.Calls PyProof.Rows
set_option Elab.async false
set_option maxRecDepth 100000
set_option maxHeartbeats 8000000
set_option rowWalk.seconds 0
namespace Mine
local macro_rules | `(tactic| k_room) => `(tactic| ((try simp only [depth_under_make, depth_under_kw, depth_in1, depth_deeper, depth_caller]); (try dsimp only [ktrTop]); omega))
local macro_rules | `(tactic| k_units) => `(tactic| ((have hcL9 := cLine_is); (try simp only [units_in1, units_deeper, Around.mark_units, units_caller]); (try dsimp only [ktrTop]); omega))
local macro_rules | `(tactic| walk_at $s:str) => `(tactic| k_extra $s)
section
/-- the i-th statement of the text, a def: its parameters, its body, its scope -/
noncomputable def defAt? : Stmt → Option (Arguments × List Stmt × Scope)
  | .FunctionDef _ args body _ _ _ scope _ _ _ => some (args, body, scope)
  | _ => none
noncomputable def topDef (i : Nat) : Option (Arguments × List Stmt × Scope) := (PySem.Challenge.pw_nm0125_01.main.body[i]?).bind defAt?
noncomputable def inClass (i j : Nat) : Option (Arguments × List Stmt × Scope) := match PySem.Challenge.pw_nm0125_01.main.body[i]? with
  | some (.ClassDef _ _ _ b _ _ _ _ _ _ _) => (b[j]?).bind defAt?
  | _ => none
@[reducible] noncomputable def F28 : {x : Arguments × List Stmt × Scope // inClass 1 0 = some x} := ⟨_, rfl⟩
@[reducible] noncomputable def F65 : {x : Arguments × List Stmt × Scope // topDef 20 = some x} := ⟨_, rfl⟩
@[reducible] noncomputable def F72 : {x : Arguments × List Stmt × Scope // topDef 21 = some x} := ⟨_, rfl⟩
@[reducible] noncomputable def F79 : {x : Arguments × List Stmt × Scope // topDef 22 = some x} := ⟨_, rfl⟩
@[reducible] noncomputable def F86 : {x : Arguments × List Stmt × Scope // topDef 23 = some x} := ⟨_, rfl⟩
@[reducible] noncomputable def F93 : {x : Arguments × List Stmt × Scope // topDef 24 = some x} := ⟨_, rfl⟩
@[reducible] noncomputable def F100 : {x : Arguments × List Stmt × Scope // topDef 25 = some x} := ⟨_, rfl⟩
@[reducible] noncomputable def F107 : {x : Arguments × List Stmt × Scope // topDef 26 = some x} := ⟨_, rfl⟩
@[reducible] noncomputable def F114 : {x : Arguments × List Stmt × Scope // topDef 27 = some x} := ⟨_, rfl⟩
@[reducible] noncomputable def F121 : {x : Arguments × List Stmt × Scope // topDef 28 = some x} := ⟨_, rfl⟩
@[reducible] noncomputable def F128 : {x : Arguments × List Stmt × Scope // topDef 29 = some x} := ⟨_, rfl⟩
@[reducible] noncomputable def F135 : {x : Arguments × List Stmt × Scope // topDef 30 = some x} := ⟨_, rfl⟩
@[reducible] noncomputable def F142 : {x : Arguments × List Stmt × Scope // topDef 31 = some x} := ⟨_, rfl⟩
@[reducible] noncomputable def F149 : {x : Arguments × List Stmt × Scope // topDef 32 = some x} := ⟨_, rfl⟩
@[reducible] noncomputable def F156 : {x : Arguments × List Stmt × Scope // topDef 33 = some x} := ⟨_, rfl⟩
@[reducible] noncomputable def F163 : {x : Arguments × List Stmt × Scope // topDef 34 = some x} := ⟨_, rfl⟩
@[reducible] noncomputable def F170 : {x : Arguments × List Stmt × Scope // topDef 35 = some x} := ⟨_, rfl⟩
@[reducible] noncomputable def F177 : {x : Arguments × List Stmt × Scope // topDef 36 = some x} := ⟨_, rfl⟩
@[reducible] noncomputable def F184 : {x : Arguments × List Stmt × Scope // topDef 37 = some x} := ⟨_, rfl⟩
@[reducible] noncomputable def F191 : {x : Arguments × List Stmt × Scope // topDef 38 = some x} := ⟨_, rfl⟩
@[reducible] noncomputable def F198 : {x : Arguments × List Stmt × Scope // topDef 39 = some x} := ⟨_, rfl⟩
@[reducible] noncomputable def F205 : {x : Arguments × List Stmt × Scope // topDef 40 = some x} := ⟨_, rfl⟩
@[reducible] noncomputable def F212 : {x : Arguments × List Stmt × Scope // topDef 41 = some x} := ⟨_, rfl⟩
@[reducible] noncomputable def F219 : {x : Arguments × List Stmt × Scope // topDef 42 = some x} := ⟨_, rfl⟩
@[reducible] noncomputable def F226 : {x : Arguments × List Stmt × Scope // topDef 43 = some x} := ⟨_, rfl⟩
@[reducible] noncomputable def F233 : {x : Arguments × List Stmt × Scope // topDef 44 = some x} := ⟨_, rfl⟩
@[reducible] noncomputable def F240 : {x : Arguments × List Stmt × Scope // topDef 45 = some x} := ⟨_, rfl⟩
@[reducible] noncomputable def F247 : {x : Arguments × List Stmt × Scope // topDef 46 = some x} := ⟨_, rfl⟩
@[reducible] noncomputable def F254 : {x : Arguments × List Stmt × Scope // topDef 47 = some x} := ⟨_, rfl⟩
@[reducible] noncomputable def F261 : {x : Arguments × List Stmt × Scope // topDef 48 = some x} := ⟨_, rfl⟩
@[reducible] noncomputable def F268 : {x : Arguments × List Stmt × Scope // topDef 49 = some x} := ⟨_, rfl⟩
@[reducible] noncomputable def F275 : {x : Arguments × List Stmt × Scope // topDef 50 = some x} := ⟨_, rfl⟩
@[reducible] noncomputable def F282 : {x : Arguments × List Stmt × Scope // topDef 51 = some x} := ⟨_, rfl⟩
@[reducible] noncomputable def F289 : {x : Arguments × List Stmt × Scope // topDef 52 = some x} := ⟨_, rfl⟩
@[reducible] noncomputable def F296 : {x : Arguments × List Stmt × Scope // topDef 53 = some x} := ⟨_, rfl⟩
@[reducible] noncomputable def F306 : {x : Arguments × List Stmt × Scope // topDef 59 = some x} := ⟨_, rfl⟩
@[reducible] noncomputable def F313 : {x : Arguments × List Stmt × Scope // topDef 60 = some x} := ⟨_, rfl⟩
@[reducible] noncomputable def F320 : {x : Arguments × List Stmt × Scope // topDef 61 = some x} := ⟨_, rfl⟩
@[reducible] noncomputable def F327 : {x : Arguments × List Stmt × Scope // topDef 62 = some x} := ⟨_, rfl⟩
@[reducible] noncomputable def F334 : {x : Arguments × List Stmt × Scope // topDef 63 = some x} := ⟨_, rfl⟩
@[reducible] noncomputable def F341 : {x : Arguments × List Stmt × Scope // topDef 64 = some x} := ⟨_, rfl⟩
@[reducible] noncomputable def F348 : {x : Arguments × List Stmt × Scope // topDef 65 = some x} := ⟨_, rfl⟩
@[reducible] noncomputable def F355 : {x : Arguments × List Stmt × Scope // topDef 67 = some x} := ⟨_, rfl⟩
@[reducible] noncomputable def F362 : {x : Arguments × List Stmt × Scope // topDef 68 = some x} := ⟨_, rfl⟩
@[reducible] noncomputable def F367 : {x : Arguments × List Stmt × Scope // topDef 69 = some x} := ⟨_, rfl⟩
@[reducible] noncomputable def F374 : {x : Arguments × List Stmt × Scope // topDef 70 = some x} := ⟨_, rfl⟩
@[reducible] noncomputable def F381 : {x : Arguments × List Stmt × Scope // topDef 71 = some x} := ⟨_, rfl⟩
@[reducible] noncomputable def F388 : {x : Arguments × List Stmt × Scope // topDef 72 = some x} := ⟨_, rfl⟩
@[reducible] noncomputable def F395 : {x : Arguments × List Stmt × Scope // topDef 73 = some x} := ⟨_, rfl⟩
noncomputable def K0 : Params → Frag := fun P =>
  (nat_lit 2, { cls := .none, dict := none, data := (.dict (List.toArray (⟨PyData.keyHash P (Str.ofString "type.__subclasses__.Exception.0"), (.str (Str.ofString "type.__subclasses__.Exception.0") 214), (.int 31 0)⟩ :: ⟨PyData.keyHash P (Str.ofString "type.__subclasses__.Exception.n"), (.str (Str.ofString "type.__subclasses__.Exception.n") 215), (.int 1 0)⟩ :: [])) 2), slots := #[] }) ::
  (nat_lit 3, { cls := (.type "dict"), dict := none, data := (.dict (List.toArray (⟨PyData.keyHash P (Str.ofString "__name__"), (.str (Str.ofString "__name__") 165), (.str (Str.ofString "law_nm0125_01") 656)⟩ :: ⟨PyData.keyHash P (Str.ofString "__doc__"), (.str (Str.ofString "__doc__") 166), .none⟩ :: ⟨PyData.keyHash P (Str.ofString "__package__"), (.str (Str.ofString "__package__") 167), .none⟩ :: ⟨PyData.keyHash P (Str.ofString "__loader__"), (.str (Str.ofString "__loader__") 168), (.builtin "__main__.__loader__#opaque")⟩ :: ⟨PyData.keyHash P (Str.ofString "__spec__"), (.str (Str.ofString "__spec__") 169), .none⟩ :: ⟨PyData.keyHash P (Str.ofString "__annotations__"), (.str (Str.ofString "__annotations__") 170), (.ref 6)⟩ :: ⟨PyData.keyHash P (Str.ofString "__builtins__"), (.str (Str.ofString "__builtins__") 171), (.ref 4)⟩ :: ⟨PyData.keyHash P (Str.ofString "__file__"), (.str (Str.ofString "__file__") 173), (.str (Str.ofString "/claim/cut.py") 172)⟩ :: ⟨PyData.keyHash P (Str.ofString "__cached__"), (.str (Str.ofString "__cached__") 174), .none⟩ :: ⟨PyData.keyHash P (Str.ofString "WasmFault"), (.str (Str.ofString "WasmFault") 217), (.ref 31)⟩ :: ⟨PyData.keyHash P (Str.ofString "Trap"), (.str (Str.ofString "Trap") 233), (.ref 44)⟩ :: ⟨PyData.keyHash P (Str.ofString "Misused"), (.str (Str.ofString "Misused") 249), (.ref 56)⟩ :: ⟨PyData.keyHash P (Str.ofString "DIVIDE_BY_ZERO"), (.str (Str.ofString "DIVIDE_BY_ZERO") 253), (.str (Str.ofString "integer divide by zero") 252)⟩ :: ⟨PyData.keyHash P (Str.ofString "OVERFLOW"), (.str (Str.ofString "OVERFLOW") 255), (.str (Str.ofString "integer overflow") 254)⟩ :: ⟨PyData.keyHash P (Str.ofString "I32_EQZ"), (.str (Str.ofString "I32_EQZ") 257), (.int 69 256)⟩ :: ⟨PyData.keyHash P (Str.ofString "I32_EQ"), (.str (Str.ofString "I32_EQ") 259), (.int 70 258)⟩ :: ⟨PyData.keyHash P (Str.ofString "I64_EQZ"), (.str (Str.ofString "I64_EQZ") 261), (.int 80 260)⟩ :: ⟨PyData.keyHash P (Str.ofString "I64_EQ"), (.str (Str.ofString "I64_EQ") 263), (.int 81 262)⟩ :: ⟨PyData.keyHash P (Str.ofString "I32_CLZ"), (.str (Str.ofString "I32_CLZ") 265), (.int 103 264)⟩ :: ⟨PyData.keyHash P (Str.ofString "I32_ADD"), (.str (Str.ofString "I32_ADD") 267), (.int 106 266)⟩ :: ⟨PyData.keyHash P (Str.ofString "I64_CLZ"), (.str (Str.ofString "I64_CLZ") 269), (.int 121 268)⟩ :: ⟨PyData.keyHash P (Str.ofString "I64_ADD"), (.str (Str.ofString "I64_ADD") 271), (.int 124 270)⟩ :: ⟨PyData.keyHash P (Str.ofString "WRAP"), (.str (Str.ofString "WRAP") 273), (.int 167 272)⟩ :: ⟨PyData.keyHash P (Str.ofString "EXTEND_S"), (.str (Str.ofString "EXTEND_S") 275), (.int 172 274)⟩ :: ⟨PyData.keyHash P (Str.ofString "EXTEND_U"), (.str (Str.ofString "EXTEND_U") 277), (.int 173 276)⟩ :: ⟨PyData.keyHash P (Str.ofString "I32_EXTEND8"), (.str (Str.ofString "I32_EXTEND8") 279), (.int 192 278)⟩ :: ⟨PyData.keyHash P (Str.ofString "I64_EXTEND8"), (.str (Str.ofString "I64_EXTEND8") 281), (.int 194 280)⟩ :: ⟨PyData.keyHash P (Str.ofString "unsigned"), (.str (Str.ofString "unsigned") 289), (.ref 65)⟩ :: ⟨PyData.keyHash P (Str.ofString "signed"), (.str (Str.ofString "signed") 297), (.ref 72)⟩ :: ⟨PyData.keyHash P (Str.ofString "least_signed"), (.str (Str.ofString "least_signed") 304), (.ref 79)⟩ :: ⟨PyData.keyHash P (Str.ofString "widened"), (.str (Str.ofString "widened") 313), (.ref 86)⟩ :: ⟨PyData.keyHash P (Str.ofString "eqz"), (.str (Str.ofString "eqz") 321), (.ref 93)⟩ :: ⟨PyData.keyHash P (Str.ofString "clz"), (.str (Str.ofString "clz") 331), (.ref 100)⟩ :: ⟨PyData.keyHash P (Str.ofString "ctz"), (.str (Str.ofString "ctz") 341), (.ref 107)⟩ :: ⟨PyData.keyHash P (Str.ofString "popcnt"), (.str (Str.ofString "popcnt") 350), (.ref 114)⟩ :: ⟨PyData.keyHash P (Str.ofString "add"), (.str (Str.ofString "add") 359), (.ref 121)⟩ :: ⟨PyData.keyHash P (Str.ofString "sub"), (.str (Str.ofString "sub") 368), (.ref 128)⟩ :: ⟨PyData.keyHash P (Str.ofString "mul"), (.str (Str.ofString "mul") 377), (.ref 135)⟩ :: ⟨PyData.keyHash P (Str.ofString "toward_nought"), (.str (Str.ofString "toward_nought") 386), (.ref 142)⟩ :: ⟨PyData.keyHash P (Str.ofString "div_s"), (.str (Str.ofString "div_s") 397), (.ref 149)⟩ :: ⟨PyData.keyHash P (Str.ofString "div_u"), (.str (Str.ofString "div_u") 406), (.ref 156)⟩ :: ⟨PyData.keyHash P (Str.ofString "rem_s"), (.str (Str.ofString "rem_s") 417), (.ref 163)⟩ :: ⟨PyData.keyHash P (Str.ofString "rem_u"), (.str (Str.ofString "rem_u") 426), (.ref 170)⟩ :: ⟨PyData.keyHash P (Str.ofString "bits_and"), (.str (Str.ofString "bits_and") 435), (.ref 177)⟩ :: ⟨PyData.keyHash P (Str.ofString "bits_or"), (.str (Str.ofString "bits_or") 444), (.ref 184)⟩ :: ⟨PyData.keyHash P (Str.ofString "bits_xor"), (.str (Str.ofString "bits_xor") 453), (.ref 191)⟩ :: ⟨PyData.keyHash P (Str.ofString "shl"), (.str (Str.ofString "shl") 462), (.ref 198)⟩ :: ⟨PyData.keyHash P (Str.ofString "shr_s"), (.str (Str.ofString "shr_s") 471), (.ref 205)⟩ :: ⟨PyData.keyHash P (Str.ofString "shr_u"), (.str (Str.ofString "shr_u") 480), (.ref 212)⟩ :: ⟨PyData.keyHash P (Str.ofString "rotl"), (.str (Str.ofString "rotl") 490), (.ref 219)⟩ :: ⟨PyData.keyHash P (Str.ofString "rotr"), (.str (Str.ofString "rotr") 499), (.ref 226)⟩ :: ⟨PyData.keyHash P (Str.ofString "eq"), (.str (Str.ofString "eq") 508), (.ref 233)⟩ :: ⟨PyData.keyHash P (Str.ofString "ne"), (.str (Str.ofString "ne") 517), (.ref 240)⟩ :: ⟨PyData.keyHash P (Str.ofString "lt_s"), (.str (Str.ofString "lt_s") 526), (.ref 247)⟩ :: ⟨PyData.keyHash P (Str.ofString "lt_u"), (.str (Str.ofString "lt_u") 535), (.ref 254)⟩ :: ⟨PyData.keyHash P (Str.ofString "gt_s"), (.str (Str.ofString "gt_s") 544), (.ref 261)⟩ :: ⟨PyData.keyHash P (Str.ofString "gt_u"), (.str (Str.ofString "gt_u") 553), (.ref 268)⟩ :: ⟨PyData.keyHash P (Str.ofString "le_s"), (.str (Str.ofString "le_s") 562), (.ref 275)⟩ :: ⟨PyData.keyHash P (Str.ofString "le_u"), (.str (Str.ofString "le_u") 571), (.ref 282)⟩ :: ⟨PyData.keyHash P (Str.ofString "ge_s"), (.str (Str.ofString "ge_s") 580), (.ref 289)⟩ :: ⟨PyData.keyHash P (Str.ofString "ge_u"), (.str (Str.ofString "ge_u") 589), (.ref 296)⟩ :: ⟨PyData.keyHash P (Str.ofString "COUNTS"), (.str (Str.ofString "COUNTS") 590), (.ref 297)⟩ :: ⟨PyData.keyHash P (Str.ofString "COMPARES"), (.str (Str.ofString "COMPARES") 591), (.ref 298)⟩ :: ⟨PyData.keyHash P (Str.ofString "REST"), (.str (Str.ofString "REST") 592), (.ref 299)⟩ :: ⟨PyData.keyHash P (Str.ofString "FIRST_DIVISION"), (.str (Str.ofString "FIRST_DIVISION") 594), (.int 3 593)⟩ :: ⟨PyData.keyHash P (Str.ofString "LAST_DIVISION"), (.str (Str.ofString "LAST_DIVISION") 596), (.int 6 595)⟩ :: ⟨PyData.keyHash P (Str.ofString "place_in"), (.str (Str.ofString "place_in") 606), (.ref 306)⟩ :: ⟨PyData.keyHash P (Str.ofString "narrow_of"), (.str (Str.ofString "narrow_of") 613), (.ref 313)⟩ :: ⟨PyData.keyHash P (Str.ofString "is_unary"), (.str (Str.ofString "is_unary") 620), (.ref 320)⟩ :: ⟨PyData.keyHash P (Str.ofString "is_binary"), (.str (Str.ofString "is_binary") 627), (.ref 327)⟩ :: ⟨PyData.keyHash P (Str.ofString "can_trap"), (.str (Str.ofString "can_trap") 635), (.ref 334)⟩ :: ⟨PyData.keyHash P (Str.ofString "reckon1"), (.str (Str.ofString "reckon1") 645), (.ref 341)⟩ :: ⟨PyData.keyHash P (Str.ofString "reckon2"), (.str (Str.ofString "reckon2") 655), (.ref 348)⟩ :: ⟨PyData.keyHash P (Str.ofString "_law_digit"), (.str (Str.ofString "_law_digit") 665), (.ref 355)⟩ :: ⟨PyData.keyHash P (Str.ofString "_law_takes"), (.str (Str.ofString "_law_takes") 673), (.ref 362)⟩ :: ⟨PyData.keyHash P (Str.ofString "_law_narrow"), (.str (Str.ofString "_law_narrow") 679), (.ref 367)⟩ :: ⟨PyData.keyHash P (Str.ofString "_law_heard"), (.str (Str.ofString "_law_heard") 687), (.ref 374)⟩ :: ⟨PyData.keyHash P (Str.ofString "_law_code_right"), (.str (Str.ofString "_law_code_right") 702), (.ref 381)⟩ :: ⟨PyData.keyHash P (Str.ofString "_law_place"), (.str (Str.ofString "_law_place") 715), (.ref 388)⟩ :: ⟨PyData.keyHash P (Str.ofString "law"), (.str (Str.ofString "law") 728), (.ref 395)⟩ :: [])) 80), slots := #[] }) ::
  (nat_lit 27, { cls := (.type "code"), dict := none, data := (.fields #[(.str (Str.ofString "__init__") 201), (.str (Str.ofString "WasmFault.__init__") 202), (.str (Str.ofString "/claim/cut.py") 203), (.int 4 0), (.int 2 0), (.int 0 0), (.int 0 0), (.int 3 0), (.ref 22), (.bool true), (.int 181 0), (.ref 23), .none, (.ref 24), (.ref 25), (.ref 26), (.int 206 0), (.int 4 0), (.str (Str.ofString "/claim/cut.py") 207)]), slots := #[] }) ::
  (nat_lit 28, { cls := (.type "function"), dict := none, data := (.func { name := (Str.ofString "__init__"), qualname := (Str.ofString "WasmFault.__init__"), params := F28.1.1, body := .stmts F28.1.2.1, scope := F28.1.2.2, globals := 3, closure := [], defaults := .none, kwdefaults := .none, doc := .none, pyModule := (.str (Str.ofString "wasmcore.faults") 187), annotations := none, code := (.ref 27), closureTuple := .none, builtins := 0 }), slots := #[] }) ::
  (nat_lit 30, { cls := (.type "dict"), dict := none, data := (.dict (List.toArray (⟨PyData.keyHash P (Str.ofString "__module__"), (.str (Str.ofString "__module__") 196), (.str (Str.ofString "wasmcore.faults") 187)⟩ :: ⟨PyData.keyHash P (Str.ofString "__firstlineno__"), (.str (Str.ofString "__firstlineno__") 200), (.int 2 199)⟩ :: ⟨PyData.keyHash P (Str.ofString "__init__"), (.str (Str.ofString "__init__") 208), (.ref 28)⟩ :: ⟨PyData.keyHash P (Str.ofString "__static_attributes__"), (.str (Str.ofString "__static_attributes__") 210), (.ref 29)⟩ :: ⟨PyData.keyHash P (Str.ofString "__weakref__"), (.str (Str.ofString "__weakref__") 212), (.ref 32)⟩ :: ⟨PyData.keyHash P (Str.ofString "__doc__"), (.str (Str.ofString "__doc__") 213), .none⟩ :: [])) 3), slots := #[] }) ::
  (nat_lit 31, { cls := (.type "type"), dict := none, data := (.cls { name := (Str.ofString "WasmFault"), bases := [(.type "Exception")], mro := [(.ref 31), (.type "Exception"), (.type "BaseException"), (.type "object")], ns := 30, qualname := (Str.ofString "WasmFault"), hasDict := true, slotNames := [], subclasses := [(.ref 44), (.ref 56)], abstract := false, collection := none, hasDel := false }), slots := #[(some (.ref 15)), none, (some (.str (Str.ofString "WasmFault") 189)), (some (.str (Str.ofString "WasmFault") 197)), (some (.builtin "Exception.__new__")), (some (.bool true))] }) ::
  (nat_lit 32, { cls := (.type "getset_descriptor"), dict := none, data := (.fields #[(.str (Str.ofString "__weakref__") 211), (.ref 31), (.builtin "ExceptionGroup.__weakref__"), .none]), slots := #[] }) ::
  (nat_lit 43, { cls := (.type "dict"), dict := none, data := (.dict (List.toArray (⟨PyData.keyHash P (Str.ofString "__module__"), (.str (Str.ofString "__module__") 225), (.str (Str.ofString "wasmcore.faults") 187)⟩ :: ⟨PyData.keyHash P (Str.ofString "__firstlineno__"), (.str (Str.ofString "__firstlineno__") 229), (.int 7 228)⟩ :: ⟨PyData.keyHash P (Str.ofString "__static_attributes__"), (.str (Str.ofString "__static_attributes__") 230), (.ref 42)⟩ :: ⟨PyData.keyHash P (Str.ofString "__doc__"), (.str (Str.ofString "__doc__") 231), .none⟩ :: [])) 2), slots := #[] }) ::
  (nat_lit 44, { cls := (.type "type"), dict := none, data := (.cls { name := (Str.ofString "Trap"), bases := [(.ref 31)], mro := [(.ref 44), (.ref 31), (.type "Exception"), (.type "BaseException"), (.type "object")], ns := 43, qualname := (Str.ofString "Trap"), hasDict := true, slotNames := [], subclasses := [], abstract := false, collection := none, hasDel := false }), slots := #[(some (.ref 35)), none, (some (.str (Str.ofString "Trap") 218)), (some (.str (Str.ofString "Trap") 226)), (some (.builtin "Exception.__new__")), (some (.bool true))] }) ::
  (nat_lit 55, { cls := (.type "dict"), dict := none, data := (.dict (List.toArray (⟨PyData.keyHash P (Str.ofString "__module__"), (.str (Str.ofString "__module__") 241), (.str (Str.ofString "wasmcore.faults") 187)⟩ :: ⟨PyData.keyHash P (Str.ofString "__firstlineno__"), (.str (Str.ofString "__firstlineno__") 245), (.int 9 244)⟩ :: ⟨PyData.keyHash P (Str.ofString "__static_attributes__"), (.str (Str.ofString "__static_attributes__") 246), (.ref 54)⟩ :: ⟨PyData.keyHash P (Str.ofString "__doc__"), (.str (Str.ofString "__doc__") 247), .none⟩ :: [])) 2), slots := #[] }) ::
  (nat_lit 56, { cls := (.type "type"), dict := none, data := (.cls { name := (Str.ofString "Misused"), bases := [(.ref 31)], mro := [(.ref 56), (.ref 31), (.type "Exception"), (.type "BaseException"), (.type "object")], ns := 55, qualname := (Str.ofString "Misused"), hasDict := true, slotNames := [], subclasses := [], abstract := false, collection := none, hasDel := false }), slots := #[(some (.ref 47)), none, (some (.str (Str.ofString "Misused") 234)), (some (.str (Str.ofString "Misused") 242)), (some (.builtin "Exception.__new__")), (some (.bool true))] }) ::
  (nat_lit 64, { cls := (.type "code"), dict := none, data := (.fields #[(.str (Str.ofString "unsigned") 282), (.str (Str.ofString "unsigned") 283), (.str (Str.ofString "/claim/cut.py") 284), (.int 27 0), (.int 2 0), (.int 0 0), (.int 0 0), (.int 3 0), (.ref 59), (.bool true), (.int 181 0), (.ref 60), .none, (.ref 61), (.ref 62), (.ref 63), (.int 287 0), (.int 27 0), (.str (Str.ofString "/claim/cut.py") 288)]), slots := #[] }) ::
  (nat_lit 65, { cls := (.type "function"), dict := none, data := (.func { name := (Str.ofString "unsigned"), qualname := (Str.ofString "unsigned"), params := F65.1.1, body := .stmts F65.1.2.1, scope := F65.1.2.2, globals := 3, closure := [], defaults := .none, kwdefaults := .none, doc := .none, pyModule := (.str (Str.ofString "wasmcore.arith") 250), annotations := none, code := (.ref 64), closureTuple := .none, builtins := 0 }), slots := #[] }) ::
  (nat_lit 71, { cls := (.type "code"), dict := none, data := (.fields #[(.str (Str.ofString "signed") 290), (.str (Str.ofString "signed") 291), (.str (Str.ofString "/claim/cut.py") 292), (.int 29 0), (.int 2 0), (.int 0 0), (.int 0 0), (.int 3 0), (.ref 66), (.bool true), (.int 181 0), (.ref 67), .none, (.ref 68), (.ref 69), (.ref 70), (.int 295 0), (.int 29 0), (.str (Str.ofString "/claim/cut.py") 296)]), slots := #[] }) ::
  (nat_lit 72, { cls := (.type "function"), dict := none, data := (.func { name := (Str.ofString "signed"), qualname := (Str.ofString "signed"), params := F72.1.1, body := .stmts F72.1.2.1, scope := F72.1.2.2, globals := 3, closure := [], defaults := .none, kwdefaults := .none, doc := .none, pyModule := (.str (Str.ofString "wasmcore.arith") 250), annotations := none, code := (.ref 71), closureTuple := .none, builtins := 0 }), slots := #[] }) ::
  (nat_lit 78, { cls := (.type "code"), dict := none, data := (.fields #[(.str (Str.ofString "least_signed") 298), (.str (Str.ofString "least_signed") 299), (.str (Str.ofString "/claim/cut.py") 300), (.int 31 0), (.int 1 0), (.int 0 0), (.int 0 0), (.int 3 0), (.ref 73), (.bool true), (.int 181 0), (.ref 74), .none, (.ref 75), (.ref 76), (.ref 77), (.int 302 0), (.int 31 0), (.str (Str.ofString "/claim/cut.py") 303)]), slots := #[] }) ::
  (nat_lit 79, { cls := (.type "function"), dict := none, data := (.func { name := (Str.ofString "least_signed"), qualname := (Str.ofString "least_signed"), params := F79.1.1, body := .stmts F79.1.2.1, scope := F79.1.2.2, globals := 3, closure := [], defaults := .none, kwdefaults := .none, doc := .none, pyModule := (.str (Str.ofString "wasmcore.arith") 250), annotations := none, code := (.ref 78), closureTuple := .none, builtins := 0 }), slots := #[] }) ::
  (nat_lit 85, { cls := (.type "code"), dict := none, data := (.fields #[(.str (Str.ofString "widened") 305), (.str (Str.ofString "widened") 306), (.str (Str.ofString "/claim/cut.py") 307), (.int 33 0), (.int 3 0), (.int 0 0), (.int 0 0), (.int 3 0), (.ref 80), (.bool true), (.int 181 0), (.ref 81), .none, (.ref 82), (.ref 83), (.ref 84), (.int 311 0), (.int 33 0), (.str (Str.ofString "/claim/cut.py") 312)]), slots := #[] }) ::
  (nat_lit 86, { cls := (.type "function"), dict := none, data := (.func { name := (Str.ofString "widened"), qualname := (Str.ofString "widened"), params := F86.1.1, body := .stmts F86.1.2.1, scope := F86.1.2.2, globals := 3, closure := [], defaults := .none, kwdefaults := .none, doc := .none, pyModule := (.str (Str.ofString "wasmcore.arith") 250), annotations := none, code := (.ref 85), closureTuple := .none, builtins := 0 }), slots := #[] }) ::
  (nat_lit 92, { cls := (.type "code"), dict := none, data := (.fields #[(.str (Str.ofString "eqz") 314), (.str (Str.ofString "eqz") 315), (.str (Str.ofString "/claim/cut.py") 316), (.int 35 0), (.int 2 0), (.int 0 0), (.int 0 0), (.int 3 0), (.ref 87), (.bool true), (.int 181 0), (.ref 88), .none, (.ref 89), (.ref 90), (.ref 91), (.int 319 0), (.int 35 0), (.str (Str.ofString "/claim/cut.py") 320)]), slots := #[] }) ::
  (nat_lit 93, { cls := (.type "function"), dict := none, data := (.func { name := (Str.ofString "eqz"), qualname := (Str.ofString "eqz"), params := F93.1.1, body := .stmts F93.1.2.1, scope := F93.1.2.2, globals := 3, closure := [], defaults := .none, kwdefaults := .none, doc := .none, pyModule := (.str (Str.ofString "wasmcore.arith") 250), annotations := none, code := (.ref 92), closureTuple := .none, builtins := 0 }), slots := #[] }) ::
  (nat_lit 99, { cls := (.type "code"), dict := none, data := (.fields #[(.str (Str.ofString "clz") 322), (.str (Str.ofString "clz") 323), (.str (Str.ofString "/claim/cut.py") 324), (.int 37 0), (.int 2 0), (.int 0 0), (.int 0 0), (.int 3 0), (.ref 94), (.bool true), (.int 181 0), (.ref 95), .none, (.ref 96), (.ref 97), (.ref 98), (.int 329 0), (.int 37 0), (.str (Str.ofString "/claim/cut.py") 330)]), slots := #[] }) ::
  (nat_lit 100, { cls := (.type "function"), dict := none, data := (.func { name := (Str.ofString "clz"), qualname := (Str.ofString "clz"), params := F100.1.1, body := .stmts F100.1.2.1, scope := F100.1.2.2, globals := 3, closure := [], defaults := .none, kwdefaults := .none, doc := .none, pyModule := (.str (Str.ofString "wasmcore.arith") 250), annotations := none, code := (.ref 99), closureTuple := .none, builtins := 0 }), slots := #[] }) ::
  (nat_lit 106, { cls := (.type "code"), dict := none, data := (.fields #[(.str (Str.ofString "ctz") 332), (.str (Str.ofString "ctz") 333), (.str (Str.ofString "/claim/cut.py") 334), (.int 48 0), (.int 2 0), (.int 0 0), (.int 0 0), (.int 3 0), (.ref 101), (.bool true), (.int 181 0), (.ref 102), .none, (.ref 103), (.ref 104), (.ref 105), (.int 339 0), (.int 48 0), (.str (Str.ofString "/claim/cut.py") 340)]), slots := #[] }) ::
  (nat_lit 107, { cls := (.type "function"), dict := none, data := (.func { name := (Str.ofString "ctz"), qualname := (Str.ofString "ctz"), params := F107.1.1, body := .stmts F107.1.2.1, scope := F107.1.2.2, globals := 3, closure := [], defaults := .none, kwdefaults := .none, doc := .none, pyModule := (.str (Str.ofString "wasmcore.arith") 250), annotations := none, code := (.ref 106), closureTuple := .none, builtins := 0 }), slots := #[] }) ::
  (nat_lit 113, { cls := (.type "code"), dict := none, data := (.fields #[(.str (Str.ofString "popcnt") 342), (.str (Str.ofString "popcnt") 343), (.str (Str.ofString "/claim/cut.py") 344), (.int 59 0), (.int 2 0), (.int 0 0), (.int 0 0), (.int 3 0), (.ref 108), (.bool true), (.int 181 0), (.ref 109), .none, (.ref 110), (.ref 111), (.ref 112), (.int 348 0), (.int 59 0), (.str (Str.ofString "/claim/cut.py") 349)]), slots := #[] }) ::
  (nat_lit 114, { cls := (.type "function"), dict := none, data := (.func { name := (Str.ofString "popcnt"), qualname := (Str.ofString "popcnt"), params := F114.1.1, body := .stmts F114.1.2.1, scope := F114.1.2.2, globals := 3, closure := [], defaults := .none, kwdefaults := .none, doc := .none, pyModule := (.str (Str.ofString "wasmcore.arith") 250), annotations := none, code := (.ref 113), closureTuple := .none, builtins := 0 }), slots := #[] }) ::
  (nat_lit 120, { cls := (.type "code"), dict := none, data := (.fields #[(.str (Str.ofString "add") 351), (.str (Str.ofString "add") 352), (.str (Str.ofString "/claim/cut.py") 353), (.int 65 0), (.int 3 0), (.int 0 0), (.int 0 0), (.int 3 0), (.ref 115), (.bool true), (.int 181 0), (.ref 116), .none, (.ref 117), (.ref 118), (.ref 119), (.int 357 0), (.int 65 0), (.str (Str.ofString "/claim/cut.py") 358)]), slots := #[] }) ::
  (nat_lit 121, { cls := (.type "function"), dict := none, data := (.func { name := (Str.ofString "add"), qualname := (Str.ofString "add"), params := F121.1.1, body := .stmts F121.1.2.1, scope := F121.1.2.2, globals := 3, closure := [], defaults := .none, kwdefaults := .none, doc := .none, pyModule := (.str (Str.ofString "wasmcore.arith") 250), annotations := none, code := (.ref 120), closureTuple := .none, builtins := 0 }), slots := #[] }) ::
  (nat_lit 127, { cls := (.type "code"), dict := none, data := (.fields #[(.str (Str.ofString "sub") 360), (.str (Str.ofString "sub") 361), (.str (Str.ofString "/claim/cut.py") 362), (.int 67 0), (.int 3 0), (.int 0 0), (.int 0 0), (.int 3 0), (.ref 122), (.bool true), (.int 181 0), (.ref 123), .none, (.ref 124), (.ref 125), (.ref 126), (.int 366 0), (.int 67 0), (.str (Str.ofString "/claim/cut.py") 367)]), slots := #[] }) ::
  (nat_lit 128, { cls := (.type "function"), dict := none, data := (.func { name := (Str.ofString "sub"), qualname := (Str.ofString "sub"), params := F128.1.1, body := .stmts F128.1.2.1, scope := F128.1.2.2, globals := 3, closure := [], defaults := .none, kwdefaults := .none, doc := .none, pyModule := (.str (Str.ofString "wasmcore.arith") 250), annotations := none, code := (.ref 127), closureTuple := .none, builtins := 0 }), slots := #[] }) ::
  (nat_lit 134, { cls := (.type "code"), dict := none, data := (.fields #[(.str (Str.ofString "mul") 369), (.str (Str.ofString "mul") 370), (.str (Str.ofString "/claim/cut.py") 371), (.int 69 0), (.int 3 0), (.int 0 0), (.int 0 0), (.int 3 0), (.ref 129), (.bool true), (.int 181 0), (.ref 130), .none, (.ref 131), (.ref 132), (.ref 133), (.int 375 0), (.int 69 0), (.str (Str.ofString "/claim/cut.py") 376)]), slots := #[] }) ::
  (nat_lit 135, { cls := (.type "function"), dict := none, data := (.func { name := (Str.ofString "mul"), qualname := (Str.ofString "mul"), params := F135.1.1, body := .stmts F135.1.2.1, scope := F135.1.2.2, globals := 3, closure := [], defaults := .none, kwdefaults := .none, doc := .none, pyModule := (.str (Str.ofString "wasmcore.arith") 250), annotations := none, code := (.ref 134), closureTuple := .none, builtins := 0 }), slots := #[] }) ::
  (nat_lit 141, { cls := (.type "code"), dict := none, data := (.fields #[(.str (Str.ofString "toward_nought") 378), (.str (Str.ofString "toward_nought") 379), (.str (Str.ofString "/claim/cut.py") 380), (.int 71 0), (.int 2 0), (.int 0 0), (.int 0 0), (.int 3 0), (.ref 136), (.bool true), (.int 181 0), (.ref 137), .none, (.ref 138), (.ref 139), (.ref 140), (.int 384 0), (.int 71 0), (.str (Str.ofString "/claim/cut.py") 385)]), slots := #[] }) ::
  (nat_lit 142, { cls := (.type "function"), dict := none, data := (.func { name := (Str.ofString "toward_nought"), qualname := (Str.ofString "toward_nought"), params := F142.1.1, body := .stmts F142.1.2.1, scope := F142.1.2.2, globals := 3, closure := [], defaults := .none, kwdefaults := .none, doc := .none, pyModule := (.str (Str.ofString "wasmcore.arith") 250), annotations := none, code := (.ref 141), closureTuple := .none, builtins := 0 }), slots := #[] }) ::
  (nat_lit 148, { cls := (.type "code"), dict := none, data := (.fields #[(.str (Str.ofString "div_s") 387), (.str (Str.ofString "div_s") 388), (.str (Str.ofString "/claim/cut.py") 389), (.int 74 0), (.int 3 0), (.int 0 0), (.int 0 0), (.int 3 0), (.ref 143), (.bool true), (.int 181 0), (.ref 144), .none, (.ref 145), (.ref 146), (.ref 147), (.int 395 0), (.int 74 0), (.str (Str.ofString "/claim/cut.py") 396)]), slots := #[] }) ::
  (nat_lit 149, { cls := (.type "function"), dict := none, data := (.func { name := (Str.ofString "div_s"), qualname := (Str.ofString "div_s"), params := F149.1.1, body := .stmts F149.1.2.1, scope := F149.1.2.2, globals := 3, closure := [], defaults := .none, kwdefaults := .none, doc := .none, pyModule := (.str (Str.ofString "wasmcore.arith") 250), annotations := none, code := (.ref 148), closureTuple := .none, builtins := 0 }), slots := #[] }) ::
  (nat_lit 155, { cls := (.type "code"), dict := none, data := (.fields #[(.str (Str.ofString "div_u") 398), (.str (Str.ofString "div_u") 399), (.str (Str.ofString "/claim/cut.py") 400), (.int 81 0), (.int 3 0), (.int 0 0), (.int 0 0), (.int 3 0), (.ref 150), (.bool true), (.int 181 0), (.ref 151), .none, (.ref 152), (.ref 153), (.ref 154), (.int 404 0), (.int 81 0), (.str (Str.ofString "/claim/cut.py") 405)]), slots := #[] }) ::
  (nat_lit 156, { cls := (.type "function"), dict := none, data := (.func { name := (Str.ofString "div_u"), qualname := (Str.ofString "div_u"), params := F156.1.1, body := .stmts F156.1.2.1, scope := F156.1.2.2, globals := 3, closure := [], defaults := .none, kwdefaults := .none, doc := .none, pyModule := (.str (Str.ofString "wasmcore.arith") 250), annotations := none, code := (.ref 155), closureTuple := .none, builtins := 0 }), slots := #[] }) ::
  (nat_lit 162, { cls := (.type "code"), dict := none, data := (.fields #[(.str (Str.ofString "rem_s") 407), (.str (Str.ofString "rem_s") 408), (.str (Str.ofString "/claim/cut.py") 409), (.int 85 0), (.int 3 0), (.int 0 0), (.int 0 0), (.int 3 0), (.ref 157), (.bool true), (.int 181 0), (.ref 158), .none, (.ref 159), (.ref 160), (.ref 161), (.int 415 0), (.int 85 0), (.str (Str.ofString "/claim/cut.py") 416)]), slots := #[] }) ::
  (nat_lit 163, { cls := (.type "function"), dict := none, data := (.func { name := (Str.ofString "rem_s"), qualname := (Str.ofString "rem_s"), params := F163.1.1, body := .stmts F163.1.2.1, scope := F163.1.2.2, globals := 3, closure := [], defaults := .none, kwdefaults := .none, doc := .none, pyModule := (.str (Str.ofString "wasmcore.arith") 250), annotations := none, code := (.ref 162), closureTuple := .none, builtins := 0 }), slots := #[] }) ::
  (nat_lit 169, { cls := (.type "code"), dict := none, data := (.fields #[(.str (Str.ofString "rem_u") 418), (.str (Str.ofString "rem_u") 419), (.str (Str.ofString "/claim/cut.py") 420), (.int 90 0), (.int 3 0), (.int 0 0), (.int 0 0), (.int 3 0), (.ref 164), (.bool true), (.int 181 0), (.ref 165), .none, (.ref 166), (.ref 167), (.ref 168), (.int 424 0), (.int 90 0), (.str (Str.ofString "/claim/cut.py") 425)]), slots := #[] }) ::
  (nat_lit 170, { cls := (.type "function"), dict := none, data := (.func { name := (Str.ofString "rem_u"), qualname := (Str.ofString "rem_u"), params := F170.1.1, body := .stmts F170.1.2.1, scope := F170.1.2.2, globals := 3, closure := [], defaults := .none, kwdefaults := .none, doc := .none, pyModule := (.str (Str.ofString "wasmcore.arith") 250), annotations := none, code := (.ref 169), closureTuple := .none, builtins := 0 }), slots := #[] }) ::
  (nat_lit 176, { cls := (.type "code"), dict := none, data := (.fields #[(.str (Str.ofString "bits_and") 427), (.str (Str.ofString "bits_and") 428), (.str (Str.ofString "/claim/cut.py") 429), (.int 94 0), (.int 3 0), (.int 0 0), (.int 0 0), (.int 3 0), (.ref 171), (.bool true), (.int 181 0), (.ref 172), .none, (.ref 173), (.ref 174), (.ref 175), (.int 433 0), (.int 94 0), (.str (Str.ofString "/claim/cut.py") 434)]), slots := #[] }) ::
  (nat_lit 177, { cls := (.type "function"), dict := none, data := (.func { name := (Str.ofString "bits_and"), qualname := (Str.ofString "bits_and"), params := F177.1.1, body := .stmts F177.1.2.1, scope := F177.1.2.2, globals := 3, closure := [], defaults := .none, kwdefaults := .none, doc := .none, pyModule := (.str (Str.ofString "wasmcore.arith") 250), annotations := none, code := (.ref 176), closureTuple := .none, builtins := 0 }), slots := #[] }) ::
  (nat_lit 183, { cls := (.type "code"), dict := none, data := (.fields #[(.str (Str.ofString "bits_or") 436), (.str (Str.ofString "bits_or") 437), (.str (Str.ofString "/claim/cut.py") 438), (.int 96 0), (.int 3 0), (.int 0 0), (.int 0 0), (.int 3 0), (.ref 178), (.bool true), (.int 181 0), (.ref 179), .none, (.ref 180), (.ref 181), (.ref 182), (.int 442 0), (.int 96 0), (.str (Str.ofString "/claim/cut.py") 443)]), slots := #[] }) ::
  (nat_lit 184, { cls := (.type "function"), dict := none, data := (.func { name := (Str.ofString "bits_or"), qualname := (Str.ofString "bits_or"), params := F184.1.1, body := .stmts F184.1.2.1, scope := F184.1.2.2, globals := 3, closure := [], defaults := .none, kwdefaults := .none, doc := .none, pyModule := (.str (Str.ofString "wasmcore.arith") 250), annotations := none, code := (.ref 183), closureTuple := .none, builtins := 0 }), slots := #[] }) ::
  (nat_lit 190, { cls := (.type "code"), dict := none, data := (.fields #[(.str (Str.ofString "bits_xor") 445), (.str (Str.ofString "bits_xor") 446), (.str (Str.ofString "/claim/cut.py") 447), (.int 98 0), (.int 3 0), (.int 0 0), (.int 0 0), (.int 3 0), (.ref 185), (.bool true), (.int 181 0), (.ref 186), .none, (.ref 187), (.ref 188), (.ref 189), (.int 451 0), (.int 98 0), (.str (Str.ofString "/claim/cut.py") 452)]), slots := #[] }) ::
  (nat_lit 191, { cls := (.type "function"), dict := none, data := (.func { name := (Str.ofString "bits_xor"), qualname := (Str.ofString "bits_xor"), params := F191.1.1, body := .stmts F191.1.2.1, scope := F191.1.2.2, globals := 3, closure := [], defaults := .none, kwdefaults := .none, doc := .none, pyModule := (.str (Str.ofString "wasmcore.arith") 250), annotations := none, code := (.ref 190), closureTuple := .none, builtins := 0 }), slots := #[] }) ::
  (nat_lit 197, { cls := (.type "code"), dict := none, data := (.fields #[(.str (Str.ofString "shl") 454), (.str (Str.ofString "shl") 455), (.str (Str.ofString "/claim/cut.py") 456), (.int 100 0), (.int 3 0), (.int 0 0), (.int 0 0), (.int 3 0), (.ref 192), (.bool true), (.int 181 0), (.ref 193), .none, (.ref 194), (.ref 195), (.ref 196), (.int 460 0), (.int 100 0), (.str (Str.ofString "/claim/cut.py") 461)]), slots := #[] }) ::
  (nat_lit 198, { cls := (.type "function"), dict := none, data := (.func { name := (Str.ofString "shl"), qualname := (Str.ofString "shl"), params := F198.1.1, body := .stmts F198.1.2.1, scope := F198.1.2.2, globals := 3, closure := [], defaults := .none, kwdefaults := .none, doc := .none, pyModule := (.str (Str.ofString "wasmcore.arith") 250), annotations := none, code := (.ref 197), closureTuple := .none, builtins := 0 }), slots := #[] }) ::
  (nat_lit 204, { cls := (.type "code"), dict := none, data := (.fields #[(.str (Str.ofString "shr_s") 463), (.str (Str.ofString "shr_s") 464), (.str (Str.ofString "/claim/cut.py") 465), (.int 102 0), (.int 3 0), (.int 0 0), (.int 0 0), (.int 3 0), (.ref 199), (.bool true), (.int 181 0), (.ref 200), .none, (.ref 201), (.ref 202), (.ref 203), (.int 469 0), (.int 102 0), (.str (Str.ofString "/claim/cut.py") 470)]), slots := #[] }) ::
  (nat_lit 205, { cls := (.type "function"), dict := none, data := (.func { name := (Str.ofString "shr_s"), qualname := (Str.ofString "shr_s"), params := F205.1.1, body := .stmts F205.1.2.1, scope := F205.1.2.2, globals := 3, closure := [], defaults := .none, kwdefaults := .none, doc := .none, pyModule := (.str (Str.ofString "wasmcore.arith") 250), annotations := none, code := (.ref 204), closureTuple := .none, builtins := 0 }), slots := #[] }) ::
  (nat_lit 211, { cls := (.type "code"), dict := none, data := (.fields #[(.str (Str.ofString "shr_u") 472), (.str (Str.ofString "shr_u") 473), (.str (Str.ofString "/claim/cut.py") 474), (.int 104 0), (.int 3 0), (.int 0 0), (.int 0 0), (.int 3 0), (.ref 206), (.bool true), (.int 181 0), (.ref 207), .none, (.ref 208), (.ref 209), (.ref 210), (.int 478 0), (.int 104 0), (.str (Str.ofString "/claim/cut.py") 479)]), slots := #[] }) ::
  (nat_lit 212, { cls := (.type "function"), dict := none, data := (.func { name := (Str.ofString "shr_u"), qualname := (Str.ofString "shr_u"), params := F212.1.1, body := .stmts F212.1.2.1, scope := F212.1.2.2, globals := 3, closure := [], defaults := .none, kwdefaults := .none, doc := .none, pyModule := (.str (Str.ofString "wasmcore.arith") 250), annotations := none, code := (.ref 211), closureTuple := .none, builtins := 0 }), slots := #[] }) ::
  (nat_lit 218, { cls := (.type "code"), dict := none, data := (.fields #[(.str (Str.ofString "rotl") 481), (.str (Str.ofString "rotl") 482), (.str (Str.ofString "/claim/cut.py") 483), (.int 106 0), (.int 3 0), (.int 0 0), (.int 0 0), (.int 3 0), (.ref 213), (.bool true), (.int 181 0), (.ref 214), .none, (.ref 215), (.ref 216), (.ref 217), (.int 488 0), (.int 106 0), (.str (Str.ofString "/claim/cut.py") 489)]), slots := #[] }) ::
  (nat_lit 219, { cls := (.type "function"), dict := none, data := (.func { name := (Str.ofString "rotl"), qualname := (Str.ofString "rotl"), params := F219.1.1, body := .stmts F219.1.2.1, scope := F219.1.2.2, globals := 3, closure := [], defaults := .none, kwdefaults := .none, doc := .none, pyModule := (.str (Str.ofString "wasmcore.arith") 250), annotations := none, code := (.ref 218), closureTuple := .none, builtins := 0 }), slots := #[] }) ::
  (nat_lit 225, { cls := (.type "code"), dict := none, data := (.fields #[(.str (Str.ofString "rotr") 491), (.str (Str.ofString "rotr") 492), (.str (Str.ofString "/claim/cut.py") 493), (.int 109 0), (.int 3 0), (.int 0 0), (.int 0 0), (.int 3 0), (.ref 220), (.bool true), (.int 181 0), (.ref 221), .none, (.ref 222), (.ref 223), (.ref 224), (.int 497 0), (.int 109 0), (.str (Str.ofString "/claim/cut.py") 498)]), slots := #[] }) ::
  (nat_lit 226, { cls := (.type "function"), dict := none, data := (.func { name := (Str.ofString "rotr"), qualname := (Str.ofString "rotr"), params := F226.1.1, body := .stmts F226.1.2.1, scope := F226.1.2.2, globals := 3, closure := [], defaults := .none, kwdefaults := .none, doc := .none, pyModule := (.str (Str.ofString "wasmcore.arith") 250), annotations := none, code := (.ref 225), closureTuple := .none, builtins := 0 }), slots := #[] }) ::
  (nat_lit 232, { cls := (.type "code"), dict := none, data := (.fields #[(.str (Str.ofString "eq") 500), (.str (Str.ofString "eq") 501), (.str (Str.ofString "/claim/cut.py") 502), (.int 111 0), (.int 3 0), (.int 0 0), (.int 0 0), (.int 3 0), (.ref 227), (.bool true), (.int 181 0), (.ref 228), .none, (.ref 229), (.ref 230), (.ref 231), (.int 506 0), (.int 111 0), (.str (Str.ofString "/claim/cut.py") 507)]), slots := #[] }) ::
  (nat_lit 233, { cls := (.type "function"), dict := none, data := (.func { name := (Str.ofString "eq"), qualname := (Str.ofString "eq"), params := F233.1.1, body := .stmts F233.1.2.1, scope := F233.1.2.2, globals := 3, closure := [], defaults := .none, kwdefaults := .none, doc := .none, pyModule := (.str (Str.ofString "wasmcore.arith") 250), annotations := none, code := (.ref 232), closureTuple := .none, builtins := 0 }), slots := #[] }) ::
  (nat_lit 239, { cls := (.type "code"), dict := none, data := (.fields #[(.str (Str.ofString "ne") 509), (.str (Str.ofString "ne") 510), (.str (Str.ofString "/claim/cut.py") 511), (.int 113 0), (.int 3 0), (.int 0 0), (.int 0 0), (.int 3 0), (.ref 234), (.bool true), (.int 181 0), (.ref 235), .none, (.ref 236), (.ref 237), (.ref 238), (.int 515 0), (.int 113 0), (.str (Str.ofString "/claim/cut.py") 516)]), slots := #[] }) ::
  (nat_lit 240, { cls := (.type "function"), dict := none, data := (.func { name := (Str.ofString "ne"), qualname := (Str.ofString "ne"), params := F240.1.1, body := .stmts F240.1.2.1, scope := F240.1.2.2, globals := 3, closure := [], defaults := .none, kwdefaults := .none, doc := .none, pyModule := (.str (Str.ofString "wasmcore.arith") 250), annotations := none, code := (.ref 239), closureTuple := .none, builtins := 0 }), slots := #[] }) ::
  (nat_lit 246, { cls := (.type "code"), dict := none, data := (.fields #[(.str (Str.ofString "lt_s") 518), (.str (Str.ofString "lt_s") 519), (.str (Str.ofString "/claim/cut.py") 520), (.int 115 0), (.int 3 0), (.int 0 0), (.int 0 0), (.int 3 0), (.ref 241), (.bool true), (.int 181 0), (.ref 242), .none, (.ref 243), (.ref 244), (.ref 245), (.int 524 0), (.int 115 0), (.str (Str.ofString "/claim/cut.py") 525)]), slots := #[] }) ::
  (nat_lit 247, { cls := (.type "function"), dict := none, data := (.func { name := (Str.ofString "lt_s"), qualname := (Str.ofString "lt_s"), params := F247.1.1, body := .stmts F247.1.2.1, scope := F247.1.2.2, globals := 3, closure := [], defaults := .none, kwdefaults := .none, doc := .none, pyModule := (.str (Str.ofString "wasmcore.arith") 250), annotations := none, code := (.ref 246), closureTuple := .none, builtins := 0 }), slots := #[] }) ::
  (nat_lit 253, { cls := (.type "code"), dict := none, data := (.fields #[(.str (Str.ofString "lt_u") 527), (.str (Str.ofString "lt_u") 528), (.str (Str.ofString "/claim/cut.py") 529), (.int 117 0), (.int 3 0), (.int 0 0), (.int 0 0), (.int 3 0), (.ref 248), (.bool true), (.int 181 0), (.ref 249), .none, (.ref 250), (.ref 251), (.ref 252), (.int 533 0), (.int 117 0), (.str (Str.ofString "/claim/cut.py") 534)]), slots := #[] }) ::
  (nat_lit 254, { cls := (.type "function"), dict := none, data := (.func { name := (Str.ofString "lt_u"), qualname := (Str.ofString "lt_u"), params := F254.1.1, body := .stmts F254.1.2.1, scope := F254.1.2.2, globals := 3, closure := [], defaults := .none, kwdefaults := .none, doc := .none, pyModule := (.str (Str.ofString "wasmcore.arith") 250), annotations := none, code := (.ref 253), closureTuple := .none, builtins := 0 }), slots := #[] }) ::
  (nat_lit 260, { cls := (.type "code"), dict := none, data := (.fields #[(.str (Str.ofString "gt_s") 536), (.str (Str.ofString "gt_s") 537), (.str (Str.ofString "/claim/cut.py") 538), (.int 119 0), (.int 3 0), (.int 0 0), (.int 0 0), (.int 3 0), (.ref 255), (.bool true), (.int 181 0), (.ref 256), .none, (.ref 257), (.ref 258), (.ref 259), (.int 542 0), (.int 119 0), (.str (Str.ofString "/claim/cut.py") 543)]), slots := #[] }) ::
  (nat_lit 261, { cls := (.type "function"), dict := none, data := (.func { name := (Str.ofString "gt_s"), qualname := (Str.ofString "gt_s"), params := F261.1.1, body := .stmts F261.1.2.1, scope := F261.1.2.2, globals := 3, closure := [], defaults := .none, kwdefaults := .none, doc := .none, pyModule := (.str (Str.ofString "wasmcore.arith") 250), annotations := none, code := (.ref 260), closureTuple := .none, builtins := 0 }), slots := #[] }) ::
  (nat_lit 267, { cls := (.type "code"), dict := none, data := (.fields #[(.str (Str.ofString "gt_u") 545), (.str (Str.ofString "gt_u") 546), (.str (Str.ofString "/claim/cut.py") 547), (.int 121 0), (.int 3 0), (.int 0 0), (.int 0 0), (.int 3 0), (.ref 262), (.bool true), (.int 181 0), (.ref 263), .none, (.ref 264), (.ref 265), (.ref 266), (.int 551 0), (.int 121 0), (.str (Str.ofString "/claim/cut.py") 552)]), slots := #[] }) ::
  (nat_lit 268, { cls := (.type "function"), dict := none, data := (.func { name := (Str.ofString "gt_u"), qualname := (Str.ofString "gt_u"), params := F268.1.1, body := .stmts F268.1.2.1, scope := F268.1.2.2, globals := 3, closure := [], defaults := .none, kwdefaults := .none, doc := .none, pyModule := (.str (Str.ofString "wasmcore.arith") 250), annotations := none, code := (.ref 267), closureTuple := .none, builtins := 0 }), slots := #[] }) ::
  (nat_lit 274, { cls := (.type "code"), dict := none, data := (.fields #[(.str (Str.ofString "le_s") 554), (.str (Str.ofString "le_s") 555), (.str (Str.ofString "/claim/cut.py") 556), (.int 123 0), (.int 3 0), (.int 0 0), (.int 0 0), (.int 3 0), (.ref 269), (.bool true), (.int 181 0), (.ref 270), .none, (.ref 271), (.ref 272), (.ref 273), (.int 560 0), (.int 123 0), (.str (Str.ofString "/claim/cut.py") 561)]), slots := #[] }) ::
  (nat_lit 275, { cls := (.type "function"), dict := none, data := (.func { name := (Str.ofString "le_s"), qualname := (Str.ofString "le_s"), params := F275.1.1, body := .stmts F275.1.2.1, scope := F275.1.2.2, globals := 3, closure := [], defaults := .none, kwdefaults := .none, doc := .none, pyModule := (.str (Str.ofString "wasmcore.arith") 250), annotations := none, code := (.ref 274), closureTuple := .none, builtins := 0 }), slots := #[] }) ::
  (nat_lit 281, { cls := (.type "code"), dict := none, data := (.fields #[(.str (Str.ofString "le_u") 563), (.str (Str.ofString "le_u") 564), (.str (Str.ofString "/claim/cut.py") 565), (.int 125 0), (.int 3 0), (.int 0 0), (.int 0 0), (.int 3 0), (.ref 276), (.bool true), (.int 181 0), (.ref 277), .none, (.ref 278), (.ref 279), (.ref 280), (.int 569 0), (.int 125 0), (.str (Str.ofString "/claim/cut.py") 570)]), slots := #[] }) ::
  (nat_lit 282, { cls := (.type "function"), dict := none, data := (.func { name := (Str.ofString "le_u"), qualname := (Str.ofString "le_u"), params := F282.1.1, body := .stmts F282.1.2.1, scope := F282.1.2.2, globals := 3, closure := [], defaults := .none, kwdefaults := .none, doc := .none, pyModule := (.str (Str.ofString "wasmcore.arith") 250), annotations := none, code := (.ref 281), closureTuple := .none, builtins := 0 }), slots := #[] }) ::
  (nat_lit 288, { cls := (.type "code"), dict := none, data := (.fields #[(.str (Str.ofString "ge_s") 572), (.str (Str.ofString "ge_s") 573), (.str (Str.ofString "/claim/cut.py") 574), (.int 127 0), (.int 3 0), (.int 0 0), (.int 0 0), (.int 3 0), (.ref 283), (.bool true), (.int 181 0), (.ref 284), .none, (.ref 285), (.ref 286), (.ref 287), (.int 578 0), (.int 127 0), (.str (Str.ofString "/claim/cut.py") 579)]), slots := #[] }) ::
  (nat_lit 289, { cls := (.type "function"), dict := none, data := (.func { name := (Str.ofString "ge_s"), qualname := (Str.ofString "ge_s"), params := F289.1.1, body := .stmts F289.1.2.1, scope := F289.1.2.2, globals := 3, closure := [], defaults := .none, kwdefaults := .none, doc := .none, pyModule := (.str (Str.ofString "wasmcore.arith") 250), annotations := none, code := (.ref 288), closureTuple := .none, builtins := 0 }), slots := #[] }) ::
  (nat_lit 295, { cls := (.type "code"), dict := none, data := (.fields #[(.str (Str.ofString "ge_u") 581), (.str (Str.ofString "ge_u") 582), (.str (Str.ofString "/claim/cut.py") 583), (.int 129 0), (.int 3 0), (.int 0 0), (.int 0 0), (.int 3 0), (.ref 290), (.bool true), (.int 181 0), (.ref 291), .none, (.ref 292), (.ref 293), (.ref 294), (.int 587 0), (.int 129 0), (.str (Str.ofString "/claim/cut.py") 588)]), slots := #[] }) ::
  (nat_lit 296, { cls := (.type "function"), dict := none, data := (.func { name := (Str.ofString "ge_u"), qualname := (Str.ofString "ge_u"), params := F296.1.1, body := .stmts F296.1.2.1, scope := F296.1.2.2, globals := 3, closure := [], defaults := .none, kwdefaults := .none, doc := .none, pyModule := (.str (Str.ofString "wasmcore.arith") 250), annotations := none, code := (.ref 295), closureTuple := .none, builtins := 0 }), slots := #[] }) ::
  (nat_lit 297, { cls := (.type "tuple"), dict := none, data := (.seq #[(.ref 100), (.ref 107), (.ref 114)] 0), slots := #[] }) ::
  (nat_lit 298, { cls := (.type "tuple"), dict := none, data := (.seq #[(.ref 233), (.ref 240), (.ref 247), (.ref 254), (.ref 261), (.ref 268), (.ref 275), (.ref 282), (.ref 289), (.ref 296)] 0), slots := #[] }) ::
  (nat_lit 299, { cls := (.type "tuple"), dict := none, data := (.seq #[(.ref 121), (.ref 128), (.ref 135), (.ref 149), (.ref 156), (.ref 163), (.ref 170), (.ref 177), (.ref 184), (.ref 191), (.ref 198), (.ref 205), (.ref 212), (.ref 219), (.ref 226)] 0), slots := #[] }) ::
  (nat_lit 305, { cls := (.type "code"), dict := none, data := (.fields #[(.str (Str.ofString "place_in") 597), (.str (Str.ofString "place_in") 598), (.str (Str.ofString "/claim/cut.py") 599), (.int 136 0), (.int 4 0), (.int 0 0), (.int 0 0), (.int 3 0), (.ref 300), (.bool true), (.int 181 0), (.ref 301), .none, (.ref 302), (.ref 303), (.ref 304), (.int 604 0), (.int 136 0), (.str (Str.ofString "/claim/cut.py") 605)]), slots := #[] }) ::
  (nat_lit 306, { cls := (.type "function"), dict := none, data := (.func { name := (Str.ofString "place_in"), qualname := (Str.ofString "place_in"), params := F306.1.1, body := .stmts F306.1.2.1, scope := F306.1.2.2, globals := 3, closure := [], defaults := .none, kwdefaults := .none, doc := .none, pyModule := (.str (Str.ofString "wasmcore.arith") 250), annotations := none, code := (.ref 305), closureTuple := .none, builtins := 0 }), slots := #[] }) ::
  (nat_lit 312, { cls := (.type "code"), dict := none, data := (.fields #[(.str (Str.ofString "narrow_of") 607), (.str (Str.ofString "narrow_of") 608), (.str (Str.ofString "/claim/cut.py") 609), (.int 142 0), (.int 1 0), (.int 0 0), (.int 0 0), (.int 3 0), (.ref 307), (.bool true), (.int 181 0), (.ref 308), .none, (.ref 309), (.ref 310), (.ref 311), (.int 611 0), (.int 142 0), (.str (Str.ofString "/claim/cut.py") 612)]), slots := #[] }) ::
  (nat_lit 313, { cls := (.type "function"), dict := none, data := (.func { name := (Str.ofString "narrow_of"), qualname := (Str.ofString "narrow_of"), params := F313.1.1, body := .stmts F313.1.2.1, scope := F313.1.2.2, globals := 3, closure := [], defaults := .none, kwdefaults := .none, doc := .none, pyModule := (.str (Str.ofString "wasmcore.arith") 250), annotations := none, code := (.ref 312), closureTuple := .none, builtins := 0 }), slots := #[] }) ::
  (nat_lit 319, { cls := (.type "code"), dict := none, data := (.fields #[(.str (Str.ofString "is_unary") 614), (.str (Str.ofString "is_unary") 615), (.str (Str.ofString "/claim/cut.py") 616), (.int 148 0), (.int 1 0), (.int 0 0), (.int 0 0), (.int 3 0), (.ref 314), (.bool true), (.int 181 0), (.ref 315), .none, (.ref 316), (.ref 317), (.ref 318), (.int 618 0), (.int 148 0), (.str (Str.ofString "/claim/cut.py") 619)]), slots := #[] }) ::
  (nat_lit 320, { cls := (.type "function"), dict := none, data := (.func { name := (Str.ofString "is_unary"), qualname := (Str.ofString "is_unary"), params := F320.1.1, body := .stmts F320.1.2.1, scope := F320.1.2.2, globals := 3, closure := [], defaults := .none, kwdefaults := .none, doc := .none, pyModule := (.str (Str.ofString "wasmcore.arith") 250), annotations := none, code := (.ref 319), closureTuple := .none, builtins := 0 }), slots := #[] }) ::
  (nat_lit 326, { cls := (.type "code"), dict := none, data := (.fields #[(.str (Str.ofString "is_binary") 621), (.str (Str.ofString "is_binary") 622), (.str (Str.ofString "/claim/cut.py") 623), (.int 152 0), (.int 1 0), (.int 0 0), (.int 0 0), (.int 3 0), (.ref 321), (.bool true), (.int 181 0), (.ref 322), .none, (.ref 323), (.ref 324), (.ref 325), (.int 625 0), (.int 152 0), (.str (Str.ofString "/claim/cut.py") 626)]), slots := #[] }) ::
  (nat_lit 327, { cls := (.type "function"), dict := none, data := (.func { name := (Str.ofString "is_binary"), qualname := (Str.ofString "is_binary"), params := F327.1.1, body := .stmts F327.1.2.1, scope := F327.1.2.2, globals := 3, closure := [], defaults := .none, kwdefaults := .none, doc := .none, pyModule := (.str (Str.ofString "wasmcore.arith") 250), annotations := none, code := (.ref 326), closureTuple := .none, builtins := 0 }), slots := #[] }) ::
  (nat_lit 333, { cls := (.type "code"), dict := none, data := (.fields #[(.str (Str.ofString "can_trap") 628), (.str (Str.ofString "can_trap") 629), (.str (Str.ofString "/claim/cut.py") 630), (.int 156 0), (.int 1 0), (.int 0 0), (.int 0 0), (.int 3 0), (.ref 328), (.bool true), (.int 181 0), (.ref 329), .none, (.ref 330), (.ref 331), (.ref 332), (.int 633 0), (.int 156 0), (.str (Str.ofString "/claim/cut.py") 634)]), slots := #[] }) ::
  (nat_lit 334, { cls := (.type "function"), dict := none, data := (.func { name := (Str.ofString "can_trap"), qualname := (Str.ofString "can_trap"), params := F334.1.1, body := .stmts F334.1.2.1, scope := F334.1.2.2, globals := 3, closure := [], defaults := .none, kwdefaults := .none, doc := .none, pyModule := (.str (Str.ofString "wasmcore.arith") 250), annotations := none, code := (.ref 333), closureTuple := .none, builtins := 0 }), slots := #[] }) ::
  (nat_lit 340, { cls := (.type "code"), dict := none, data := (.fields #[(.str (Str.ofString "reckon1") 636), (.str (Str.ofString "reckon1") 637), (.str (Str.ofString "/claim/cut.py") 638), (.int 159 0), (.int 2 0), (.int 0 0), (.int 0 0), (.int 3 0), (.ref 335), (.bool true), (.int 181 0), (.ref 336), .none, (.ref 337), (.ref 338), (.ref 339), (.int 643 0), (.int 159 0), (.str (Str.ofString "/claim/cut.py") 644)]), slots := #[] }) ::
  (nat_lit 341, { cls := (.type "function"), dict := none, data := (.func { name := (Str.ofString "reckon1"), qualname := (Str.ofString "reckon1"), params := F341.1.1, body := .stmts F341.1.2.1, scope := F341.1.2.2, globals := 3, closure := [], defaults := .none, kwdefaults := .none, doc := .none, pyModule := (.str (Str.ofString "wasmcore.arith") 250), annotations := none, code := (.ref 340), closureTuple := .none, builtins := 0 }), slots := #[] }) ::
  (nat_lit 347, { cls := (.type "code"), dict := none, data := (.fields #[(.str (Str.ofString "reckon2") 646), (.str (Str.ofString "reckon2") 647), (.str (Str.ofString "/claim/cut.py") 648), (.int 173 0), (.int 3 0), (.int 0 0), (.int 0 0), (.int 3 0), (.ref 342), (.bool true), (.int 181 0), (.ref 343), .none, (.ref 344), (.ref 345), (.ref 346), (.int 653 0), (.int 173 0), (.str (Str.ofString "/claim/cut.py") 654)]), slots := #[] }) ::
  (nat_lit 348, { cls := (.type "function"), dict := none, data := (.func { name := (Str.ofString "reckon2"), qualname := (Str.ofString "reckon2"), params := F348.1.1, body := .stmts F348.1.2.1, scope := F348.1.2.2, globals := 3, closure := [], defaults := .none, kwdefaults := .none, doc := .none, pyModule := (.str (Str.ofString "wasmcore.arith") 250), annotations := none, code := (.ref 347), closureTuple := .none, builtins := 0 }), slots := #[] }) ::
  (nat_lit 354, { cls := (.type "code"), dict := none, data := (.fields #[(.str (Str.ofString "_law_digit") 658), (.str (Str.ofString "_law_digit") 659), (.str (Str.ofString "/claim/cut.py") 660), (.int 182 0), (.int 2 0), (.int 0 0), (.int 0 0), (.int 3 0), (.ref 349), (.bool true), (.int 181 0), (.ref 350), .none, (.ref 351), (.ref 352), (.ref 353), (.int 663 0), (.int 182 0), (.str (Str.ofString "/claim/cut.py") 664)]), slots := #[] }) ::
  (nat_lit 355, { cls := (.type "function"), dict := none, data := (.func { name := (Str.ofString "_law_digit"), qualname := (Str.ofString "_law_digit"), params := F355.1.1, body := .stmts F355.1.2.1, scope := F355.1.2.2, globals := 3, closure := [], defaults := .none, kwdefaults := .none, doc := .none, pyModule := (.str (Str.ofString "law_nm0125_01") 656), annotations := none, code := (.ref 354), closureTuple := .none, builtins := 0 }), slots := #[] }) ::
  (nat_lit 361, { cls := (.type "code"), dict := none, data := (.fields #[(.str (Str.ofString "_law_takes") 666), (.str (Str.ofString "_law_takes") 667), (.str (Str.ofString "/claim/cut.py") 668), (.int 184 0), (.int 1 0), (.int 0 0), (.int 0 0), (.int 3 0), (.ref 356), (.bool true), (.int 181 0), (.ref 357), .none, (.ref 358), (.ref 359), (.ref 360), (.int 671 0), (.int 184 0), (.str (Str.ofString "/claim/cut.py") 672)]), slots := #[] }) ::
  (nat_lit 362, { cls := (.type "function"), dict := none, data := (.func { name := (Str.ofString "_law_takes"), qualname := (Str.ofString "_law_takes"), params := F362.1.1, body := .stmts F362.1.2.1, scope := F362.1.2.2, globals := 3, closure := [], defaults := .none, kwdefaults := .none, doc := .none, pyModule := (.str (Str.ofString "law_nm0125_01") 656), annotations := none, code := (.ref 361), closureTuple := .none, builtins := 0 }), slots := #[] }) ::
  (nat_lit 366, { cls := (.type "code"), dict := none, data := (.fields #[(.str (Str.ofString "_law_narrow") 674), (.str (Str.ofString "_law_narrow") 675), (.str (Str.ofString "/claim/cut.py") 676), (.int 187 0), (.int 1 0), (.int 0 0), (.int 0 0), (.int 3 0), (.ref 363), (.bool true), (.int 181 0), (.ref 364), .none, .none, .none, (.ref 365), (.int 677 0), (.int 187 0), (.str (Str.ofString "/claim/cut.py") 678)]), slots := #[] }) ::
  (nat_lit 367, { cls := (.type "function"), dict := none, data := (.func { name := (Str.ofString "_law_narrow"), qualname := (Str.ofString "_law_narrow"), params := F367.1.1, body := .stmts F367.1.2.1, scope := F367.1.2.2, globals := 3, closure := [], defaults := .none, kwdefaults := .none, doc := .none, pyModule := (.str (Str.ofString "law_nm0125_01") 656), annotations := none, code := (.ref 366), closureTuple := .none, builtins := 0 }), slots := #[] }) ::
  (nat_lit 373, { cls := (.type "code"), dict := none, data := (.fields #[(.str (Str.ofString "_law_heard") 680), (.str (Str.ofString "_law_heard") 681), (.str (Str.ofString "/claim/cut.py") 682), (.int 191 0), (.int 1 0), (.int 0 0), (.int 0 0), (.int 3 0), (.ref 368), (.bool true), (.int 181 0), (.ref 369), .none, (.ref 370), (.ref 371), (.ref 372), (.int 685 0), (.int 191 0), (.str (Str.ofString "/claim/cut.py") 686)]), slots := #[] }) ::
  (nat_lit 374, { cls := (.type "function"), dict := none, data := (.func { name := (Str.ofString "_law_heard"), qualname := (Str.ofString "_law_heard"), params := F374.1.1, body := .stmts F374.1.2.1, scope := F374.1.2.2, globals := 3, closure := [], defaults := .none, kwdefaults := .none, doc := .none, pyModule := (.str (Str.ofString "law_nm0125_01") 656), annotations := none, code := (.ref 373), closureTuple := .none, builtins := 0 }), slots := #[] }) ::
  (nat_lit 380, { cls := (.type "code"), dict := none, data := (.fields #[(.str (Str.ofString "_law_code_right") 688), (.str (Str.ofString "_law_code_right") 689), (.str (Str.ofString "/claim/cut.py") 690), (.int 199 0), (.int 2 0), (.int 0 0), (.int 0 0), (.int 3 0), (.ref 375), (.bool true), (.int 181 0), (.ref 376), .none, (.ref 377), (.ref 378), (.ref 379), (.int 700 0), (.int 199 0), (.str (Str.ofString "/claim/cut.py") 701)]), slots := #[] }) ::
  (nat_lit 381, { cls := (.type "function"), dict := none, data := (.func { name := (Str.ofString "_law_code_right"), qualname := (Str.ofString "_law_code_right"), params := F381.1.1, body := .stmts F381.1.2.1, scope := F381.1.2.2, globals := 3, closure := [], defaults := .none, kwdefaults := .none, doc := .none, pyModule := (.str (Str.ofString "law_nm0125_01") 656), annotations := none, code := (.ref 380), closureTuple := .none, builtins := 0 }), slots := #[] }) ::
  (nat_lit 387, { cls := (.type "code"), dict := none, data := (.fields #[(.str (Str.ofString "_law_place") 703), (.str (Str.ofString "_law_place") 704), (.str (Str.ofString "/claim/cut.py") 705), (.int 210 0), (.int 4 0), (.int 0 0), (.int 0 0), (.int 3 0), (.ref 382), (.bool true), (.int 181 0), (.ref 383), .none, (.ref 384), (.ref 385), (.ref 386), (.int 713 0), (.int 210 0), (.str (Str.ofString "/claim/cut.py") 714)]), slots := #[] }) ::
  (nat_lit 388, { cls := (.type "function"), dict := none, data := (.func { name := (Str.ofString "_law_place"), qualname := (Str.ofString "_law_place"), params := F388.1.1, body := .stmts F388.1.2.1, scope := F388.1.2.2, globals := 3, closure := [], defaults := .none, kwdefaults := .none, doc := .none, pyModule := (.str (Str.ofString "law_nm0125_01") 656), annotations := none, code := (.ref 387), closureTuple := .none, builtins := 0 }), slots := #[] }) ::
  (nat_lit 394, { cls := (.type "code"), dict := none, data := (.fields #[(.str (Str.ofString "law") 716), (.str (Str.ofString "law") 717), (.str (Str.ofString "/claim/cut.py") 718), (.int 216 0), (.int 1 0), (.int 0 0), (.int 0 0), (.int 3 0), (.ref 389), (.bool true), (.int 181 0), (.ref 390), .none, (.ref 391), (.ref 392), (.ref 393), (.int 726 0), (.int 216 0), (.str (Str.ofString "/claim/cut.py") 727)]), slots := #[] }) ::
  (nat_lit 395, { cls := (.type "function"), dict := none, data := (.func { name := (Str.ofString "law"), qualname := (Str.ofString "law"), params := F395.1.1, body := .stmts F395.1.2.1, scope := F395.1.2.2, globals := 3, closure := [], defaults := .none, kwdefaults := .none, doc := .none, pyModule := (.str (Str.ofString "law_nm0125_01") 656), annotations := none, code := (.ref 394), closureTuple := .none, builtins := 0 }), slots := #[] }) ::
  []
/-- a smaller written part -/
theorem frag_sub {K K' : Params → Frag} (h : ∀ P, (K' P).map (fun q => (K P).lookup q.1) = (K' P).map fun q => some q.2) {P : Params} {g : Heap} (X : (K P).In g) : (K' P).In g := fun a o e => by
  refine X a o ?_
  have hm : (a, o) ∈ K' P := mem_of_lookupK e
  have hp : ∀ l : Frag, l.map (fun q => (K P).lookup q.1) = l.map (fun q => some q.2) → (a, o) ∈ l → (K P).lookup a = some o := by
    intro l
    induction l with
    | nil => intro _ hm; cases hm
    | cons p r ih =>
      intro e hm
      rw [List.map_cons, List.map_cons, List.cons.injEq] at e
      rcases List.mem_cons.mp hm with q | hm
      · rw [← q] at e
        exact e.1
      · exact ih e.2 hm
  exact hp _ (h P) hm
end
section
noncomputable abbrev pr : Program := PySem.Challenge.rw_nm0125_01.row.prog
/-- a def's claim: some int comes back, nothing else stands anew -/
abbrev SomeInt (w : World) (k : Nat) (f : Addr) (pre : Prop) (vs : List Value) : Prop :=
  ∀ (lo : List Str) (mean : ExcName → Option Value) (mg mb : Str → Option Value) (news : List (Addr × Obj)) (dp un : Nat) (gd : Option (List Code)) (cn : Str) (cs : Scope) (a : Addr) (ccd : Value) (cl : List (Str × Addr)) (outer : List Env) (A₀ : Around) (base h₀ : Heap) (L : Addr) (m : Str → Option Value) (s : Shared) (Q E : Value → Shared → Prop),
    pre → Below A₀ base outer h₀ → Fr h₀ L s.heap m → (K0 w.params).In h₀ → News h₀ L s.heap news → Top topProg lo mean mg mb h₀ → cs.kind = .function →
    dp + k < recursionLimit → un + 8 * k < cLine →
    (∀ (r : Int) (t : Tok) (h' : Heap) (tk' : Nat), Fr h₀ L h' m → News h₀ L h' news → Q (.int r t) { s with heap := h', toks := tk' }) →
      wpAny (model pr w) (ktrTop dp un gd cn cs L a ccd cl outer) (call (.ref f) vs) Q E s
theorem SomeInt.use {w : World} {k : Nat} {f : Addr} {pre : Prop} {vs : List Value} {lo : List Str} {mean : ExcName → Option Value} {mg mb : Str → Option Value} {news : List (Addr × Obj)} {dp un : Nat} {gd : Option (List Code)} {cn : Str} {cs : Scope} {a : Addr} {ccd : Value} {cl : List (Str × Addr)} {outer : List Env} {A₀ : Around} {base h₀ : Heap} {L : Addr} {m : Str → Option Value} {s : Shared} {Q E : Value → Shared → Prop}
    (C : SomeInt w k f pre vs) (hp : pre) (B : Below A₀ base outer h₀) (F : Fr h₀ L s.heap m) (X : (K0 w.params).In h₀) (N : News h₀ L s.heap news) (T : Top topProg lo mean mg mb h₀) (hk : cs.kind = .function)
    (hd : dp + k < recursionLimit) (hu : un + 8 * k < cLine)
    (ret : ∀ (r : Int) (t : Tok) (h' : Heap) (tk' : Nat), Fr h₀ L h' m → News h₀ L h' news → Q (.int r t) { s with heap := h', toks := tk' }) :
    wpAny (model pr w) (ktrTop dp un gd cn cs L a ccd cl outer) (call (.ref f) vs) Q E s :=
  C lo mean mg mb news dp un gd cn cs a ccd cl outer A₀ base h₀ L m s Q E hp B F X N T hk hd hu ret
/-- a def's claim: the very value comes back, nothing else stands anew -/
abbrev Gives (w : World) (k : Nat) (f : Addr) (pre : Prop) (vs : List Value) (R : Tok → Value) : Prop :=
  ∀ (lo : List Str) (mean : ExcName → Option Value) (mg mb : Str → Option Value) (news : List (Addr × Obj)) (dp un : Nat) (gd : Option (List Code)) (cn : Str) (cs : Scope) (a : Addr) (ccd : Value) (cl : List (Str × Addr)) (outer : List Env) (A₀ : Around) (base h₀ : Heap) (L : Addr) (m : Str → Option Value) (s : Shared) (Q E : Value → Shared → Prop),
    pre → Below A₀ base outer h₀ → Fr h₀ L s.heap m → (K0 w.params).In h₀ → News h₀ L s.heap news → Top topProg lo mean mg mb h₀ → cs.kind = .function →
    dp + k < recursionLimit → un + 8 * k < cLine →
    (∀ (t : Tok) (h' : Heap) (tk' : Nat), Fr h₀ L h' m → News h₀ L h' news → Q (R t) { s with heap := h', toks := tk' }) →
      wpAny (model pr w) (ktrTop dp un gd cn cs L a ccd cl outer) (call (.ref f) vs) Q E s
theorem Gives.use {w : World} {k : Nat} {f : Addr} {pre : Prop} {vs : List Value} {R : Tok → Value} {lo : List Str} {mean : ExcName → Option Value} {mg mb : Str → Option Value} {news : List (Addr × Obj)} {dp un : Nat} {gd : Option (List Code)} {cn : Str} {cs : Scope} {a : Addr} {ccd : Value} {cl : List (Str × Addr)} {outer : List Env} {A₀ : Around} {base h₀ : Heap} {L : Addr} {m : Str → Option Value} {s : Shared} {Q E : Value → Shared → Prop}
    (C : Gives w k f pre vs R) (hp : pre) (B : Below A₀ base outer h₀) (F : Fr h₀ L s.heap m) (X : (K0 w.params).In h₀) (N : News h₀ L s.heap news) (T : Top topProg lo mean mg mb h₀) (hk : cs.kind = .function)
    (hd : dp + k < recursionLimit) (hu : un + 8 * k < cLine)
    (ret : ∀ (t : Tok) (h' : Heap) (tk' : Nat), Fr h₀ L h' m → News h₀ L h' news → Q (R t) { s with heap := h', toks := tk' }) :
    wpAny (model pr w) (ktrTop dp un gd cn cs L a ccd cl outer) (call (.ref f) vs) Q E s :=
  C lo mean mg mb news dp un gd cn cs a ccd cl outer A₀ base h₀ L m s Q E hp B F X N T hk hd hu ret
end
section
theorem top_offC1 : True := by
  w_top off
  k_with_none
  exact True.intro
theorem words_C1 : True := by
  k_with_none
  exact True.intro
theorem c_unsigned (w : World) (x : Int) (t : Tok) (b : Int) (u : Tok) : SomeInt w 1 65 (b = 32 ∨ b = 64) [.int x t, .int b u] := by
  unfold SomeInt pr
  k_fill
  intro lo mean mg mb news dp un gd cn cs a ccd cl outer A₀ base h₀ L m s Q E hpre B F X N T hk hdp hun hret
  all_goals refine wpAny_call ?_
  all_goals k_dflt cell_enter
  all_goals k_steps
  all_goals first | (refine' hret _ _ _ _ ?r1 ?r2; (case r1 => first | assumption | k_asm); (case r2 => first | assumption | k_asm)) | w_report
theorem c_signed (w : World) (x : Int) (t : Tok) (b : Int) (u : Tok) : SomeInt w 1 72 (b = 32 ∨ b = 64) [.int x t, .int b u] := by
  unfold SomeInt pr
  k_fill
  intro lo mean mg mb news dp un gd cn cs a ccd cl outer A₀ base h₀ L m s Q E hpre B F X N T hk hdp hun hret
  rcases hpre with rfl | rfl
  all_goals refine wpAny_call ?_
  all_goals k_dflt cell_enter
  all_goals k_steps
  all_goals first | (refine' hret _ _ _ _ ?r1 ?r2; (case r1 => first | assumption | k_asm); (case r2 => first | assumption | k_asm)) | w_report
theorem words_C1a : True := by
  k_with_none
  k_with "eval Call" => (k_here; k_dflt (refine Call_ ?_))
  k_with "call ref cons nil" => (k_here; k_dflt (first | (refine' SomeInt.use (c_unsigned _ _ _ _ _) ?kp ?k1 ?k2 ?k3 ?k4 ?k5 ?kK ?kd ?ku ?_; (case kp => first | assumption | exact .inl rfl | exact .inr rfl); (case k1 => k_asm); (case k2 => k_asm); (case k3 => k_asm); (case k4 => k_asm); (case k5 => k_asm); (case kK => first | exact rfl | assumption); (case kd => k_room); (case ku => k_units); intro r9 t9 h9 tk9 F9 N9) | (refine' SomeInt.use (c_signed _ _ _ _ _) ?kp ?k1 ?k2 ?k3 ?k4 ?k5 ?kK ?kd ?ku ?_; (case kp => first | assumption | exact .inl rfl | exact .inr rfl); (case k1 => k_asm); (case k2 => k_asm); (case k3 => k_asm); (case k4 => k_asm); (case k5 => k_asm); (case kK => first | exact rfl | assumption); (case kd => k_room); (case ku => k_units); intro r9 t9 h9 tk9 F9 N9)); (try dsimp only); (try k_fold))
  exact True.intro
theorem c_lt_s3 (w : World) (x : Int) (t : Tok) (y : Int) (v : Tok) (b : Int) (u : Tok) : SomeInt w 2 247 (b = 32 ∨ b = 64) [.int x t, .int y v, .int b u] := by
  unfold SomeInt pr
  k_fill
  intro lo mean mg mb news dp un gd cn cs a ccd cl outer A₀ base h₀ L m s Q E hpre B F X N T hk hdp hun hret
  all_goals refine wpAny_call ?_
  all_goals k_dflt cell_enter
  all_goals k_steps
  all_goals first | (refine' hret _ _ _ _ ?r1 ?r2; (case r1 => first | assumption | k_asm); (case r2 => first | assumption | k_asm)) | w_report
theorem c_lt_u3 (w : World) (x : Int) (t : Tok) (y : Int) (v : Tok) (b : Int) (u : Tok) : SomeInt w 1 254 True [.int x t, .int y v, .int b u] := by
  unfold SomeInt pr
  k_fill
  intro lo mean mg mb news dp un gd cn cs a ccd cl outer A₀ base h₀ L m s Q E hpre B F X N T hk hdp hun hret
  all_goals refine wpAny_call ?_
  all_goals k_dflt cell_enter
  all_goals k_steps
  all_goals first | (refine' hret _ _ _ _ ?r1 ?r2; (case r1 => first | assumption | k_asm); (case r2 => first | assumption | k_asm)) | w_report
theorem c_rotl3 (w : World) (x : Int) (t : Tok) (y : Int) (v : Tok) (b : Int) (u : Tok) : SomeInt w 2 219 ((0 ≤ x ∧ x < 4294967296) ∧ (b = 32 ∨ b = 64)) [.int x t, .int y v, .int b u] := by
  unfold SomeInt pr
  k_fill
  intro lo mean mg mb news dp un gd cn cs a ccd cl outer A₀ base h₀ L m s Q E hpre B F X N T hk hdp hun hret
  obtain ⟨⟨hx0, hx1⟩, hb⟩ := hpre
  rcases hb with rfl | rfl
  all_goals refine wpAny_call ?_
  all_goals k_dflt cell_enter
  all_goals k_steps
  all_goals first | (refine' hret _ _ _ _ ?r1 ?r2; (case r1 => first | assumption | k_asm); (case r2 => first | assumption | k_asm)) | w_report
theorem words_C1b : True := by
  k_with_none
  k_with "eval Call" => (k_here; k_dflt (refine Call_ ?_))
  k_with "call ref cons nil" => (k_here; k_dflt (first | (refine' SomeInt.use (c_unsigned _ _ _ _ _) ?kp ?k1 ?k2 ?k3 ?k4 ?k5 ?kK ?kd ?ku ?_; (case kp => first | assumption | exact .inl rfl | exact .inr rfl); (case k1 => k_asm); (case k2 => k_asm); (case k3 => k_asm); (case k4 => k_asm); (case k5 => k_asm); (case kK => first | exact rfl | assumption); (case kd => k_room); (case ku => k_units); intro r9 t9 h9 tk9 F9 N9) | (refine' SomeInt.use (c_signed _ _ _ _ _) ?kp ?k1 ?k2 ?k3 ?k4 ?k5 ?kK ?kd ?ku ?_; (case kp => first | assumption | exact .inl rfl | exact .inr rfl); (case k1 => k_asm); (case k2 => k_asm); (case k3 => k_asm); (case k4 => k_asm); (case k5 => k_asm); (case kK => first | exact rfl | assumption); (case kd => k_room); (case ku => k_units); intro r9 t9 h9 tk9 F9 N9) | (refine' SomeInt.use (c_lt_s3 _ _ _ _ _ _ _) ?kp ?k1 ?k2 ?k3 ?k4 ?k5 ?kK ?kd ?ku ?_; (case kp => first | assumption | exact .inl rfl | exact .inr rfl); (case k1 => k_asm); (case k2 => k_asm); (case k3 => k_asm); (case k4 => k_asm); (case k5 => k_asm); (case kK => first | exact rfl | assumption); (case kd => k_room); (case ku => k_units); intro r9 t9 h9 tk9 F9 N9) | (refine' SomeInt.use (c_lt_u3 _ _ _ _ _ _ _) ?kp ?k1 ?k2 ?k3 ?k4 ?k5 ?kK ?kd ?ku ?_; (case kp => trivial); (case k1 => k_asm); (case k2 => k_asm); (case k3 => k_asm); (case k4 => k_asm); (case k5 => k_asm); (case kK => first | exact rfl | assumption); (case kd => k_room); (case ku => k_units); intro r9 t9 h9 tk9 F9 N9) | (refine' SomeInt.use (c_rotl3 _ _ _ _ _ _ _) ?kp ?k1 ?k2 ?k3 ?k4 ?k5 ?kK ?kd ?ku ?_; (case kp => exact ⟨⟨by assumption, by assumption⟩, by first | assumption | exact .inl rfl | exact .inr rfl⟩); (case k1 => k_asm); (case k2 => k_asm); (case k3 => k_asm); (case k4 => k_asm); (case k5 => k_asm); (case kK => first | exact rfl | assumption); (case kd => k_room); (case ku => k_units); intro r9 t9 h9 tk9 F9 N9)); (try dsimp only); (try k_fold))
  exact True.intro
theorem c_add (w : World) (x : Int) (t : Tok) (v : Tok) (b : Int) (u : Tok) : SomeInt w 3 121 ((0 ≤ x ∧ x < 4294967296) ∧ (b = 32 ∨ b = 64)) [.int x t, .int 0 v, .int b u] := by
  unfold SomeInt pr
  k_fill
  intro lo mean mg mb news dp un gd cn cs a ccd cl outer A₀ base h₀ L m s Q E hpre B F X N T hk hdp hun hret
  obtain ⟨⟨hx0, hx1⟩, hb⟩ := hpre
  all_goals refine wpAny_call ?_
  all_goals k_dflt cell_enter
  all_goals k_steps
  all_goals first | (refine' hret _ _ _ _ ?r1 ?r2; (case r1 => first | assumption | k_asm); (case r2 => first | assumption | k_asm)) | w_report
theorem c_sub (w : World) (x : Int) (t : Tok) (v : Tok) (b : Int) (u : Tok) : SomeInt w 3 128 ((0 ≤ x ∧ x < 4294967296) ∧ (b = 32 ∨ b = 64)) [.int x t, .int 0 v, .int b u] := by
  unfold SomeInt pr
  k_fill
  intro lo mean mg mb news dp un gd cn cs a ccd cl outer A₀ base h₀ L m s Q E hpre B F X N T hk hdp hun hret
  obtain ⟨⟨hx0, hx1⟩, hb⟩ := hpre
  all_goals refine wpAny_call ?_
  all_goals k_dflt cell_enter
  all_goals k_steps
  all_goals first | (refine' hret _ _ _ _ ?r1 ?r2; (case r1 => first | assumption | k_asm); (case r2 => first | assumption | k_asm)) | w_report
theorem c_mul (w : World) (x : Int) (t : Tok) (v : Tok) (b : Int) (u : Tok) : SomeInt w 3 135 ((0 ≤ x ∧ x < 4294967296) ∧ (b = 32 ∨ b = 64)) [.int x t, .int 0 v, .int b u] := by
  unfold SomeInt pr
  k_fill
  intro lo mean mg mb news dp un gd cn cs a ccd cl outer A₀ base h₀ L m s Q E hpre B F X N T hk hdp hun hret
  obtain ⟨⟨hx0, hx1⟩, hb⟩ := hpre
  all_goals refine wpAny_call ?_
  all_goals k_dflt cell_enter
  all_goals k_steps
  all_goals first | (refine' hret _ _ _ _ ?r1 ?r2; (case r1 => first | assumption | k_asm); (case r2 => first | assumption | k_asm)) | w_report
theorem c_bits_and (w : World) (x : Int) (t : Tok) (v : Tok) (b : Int) (u : Tok) : SomeInt w 3 177 ((0 ≤ x ∧ x < 4294967296) ∧ (b = 32 ∨ b = 64)) [.int x t, .int 0 v, .int b u] := by
  unfold SomeInt pr
  k_fill
  intro lo mean mg mb news dp un gd cn cs a ccd cl outer A₀ base h₀ L m s Q E hpre B F X N T hk hdp hun hret
  obtain ⟨⟨hx0, hx1⟩, hb⟩ := hpre
  all_goals refine wpAny_call ?_
  all_goals k_dflt cell_enter
  all_goals k_steps
  all_goals first | (refine' hret _ _ _ _ ?r1 ?r2; (case r1 => first | assumption | k_asm); (case r2 => first | assumption | k_asm)) | w_report
theorem c_bits_or (w : World) (x : Int) (t : Tok) (v : Tok) (b : Int) (u : Tok) : SomeInt w 3 184 ((0 ≤ x ∧ x < 4294967296) ∧ (b = 32 ∨ b = 64)) [.int x t, .int 0 v, .int b u] := by
  unfold SomeInt pr
  k_fill
  intro lo mean mg mb news dp un gd cn cs a ccd cl outer A₀ base h₀ L m s Q E hpre B F X N T hk hdp hun hret
  obtain ⟨⟨hx0, hx1⟩, hb⟩ := hpre
  all_goals refine wpAny_call ?_
  all_goals k_dflt cell_enter
  all_goals k_steps
  all_goals first | (refine' hret _ _ _ _ ?r1 ?r2; (case r1 => first | assumption | k_asm); (case r2 => first | assumption | k_asm)) | w_report
theorem c_bits_xor (w : World) (x : Int) (t : Tok) (v : Tok) (b : Int) (u : Tok) : SomeInt w 3 191 ((0 ≤ x ∧ x < 4294967296) ∧ (b = 32 ∨ b = 64)) [.int x t, .int 0 v, .int b u] := by
  unfold SomeInt pr
  k_fill
  intro lo mean mg mb news dp un gd cn cs a ccd cl outer A₀ base h₀ L m s Q E hpre B F X N T hk hdp hun hret
  obtain ⟨⟨hx0, hx1⟩, hb⟩ := hpre
  all_goals refine wpAny_call ?_
  all_goals k_dflt cell_enter
  all_goals k_steps
  all_goals first | (refine' hret _ _ _ _ ?r1 ?r2; (case r1 => first | assumption | k_asm); (case r2 => first | assumption | k_asm)) | w_report
theorem c_shl (w : World) (x : Int) (t : Tok) (v : Tok) (b : Int) (u : Tok) : SomeInt w 3 198 ((0 ≤ x ∧ x < 4294967296) ∧ (b = 32 ∨ b = 64)) [.int x t, .int 0 v, .int b u] := by
  unfold SomeInt pr
  k_fill
  intro lo mean mg mb news dp un gd cn cs a ccd cl outer A₀ base h₀ L m s Q E hpre B F X N T hk hdp hun hret
  obtain ⟨⟨hx0, hx1⟩, hb⟩ := hpre
  rcases hb with rfl | rfl
  all_goals refine wpAny_call ?_
  all_goals k_dflt cell_enter
  all_goals k_steps
  all_goals first | (refine' hret _ _ _ _ ?r1 ?r2; (case r1 => first | assumption | k_asm); (case r2 => first | assumption | k_asm)) | w_report
theorem c_shr_s (w : World) (x : Int) (t : Tok) (v : Tok) (b : Int) (u : Tok) : SomeInt w 3 205 ((0 ≤ x ∧ x < 4294967296) ∧ (b = 32 ∨ b = 64)) [.int x t, .int 0 v, .int b u] := by
  unfold SomeInt pr
  k_fill
  intro lo mean mg mb news dp un gd cn cs a ccd cl outer A₀ base h₀ L m s Q E hpre B F X N T hk hdp hun hret
  obtain ⟨⟨hx0, hx1⟩, hb⟩ := hpre
  rcases hb with rfl | rfl
  all_goals refine wpAny_call ?_
  all_goals k_dflt cell_enter
  all_goals k_steps
  all_goals first | (refine' hret _ _ _ _ ?r1 ?r2; (case r1 => first | assumption | k_asm); (case r2 => first | assumption | k_asm)) | w_report
theorem c_shr_u (w : World) (x : Int) (t : Tok) (v : Tok) (b : Int) (u : Tok) : SomeInt w 3 212 ((0 ≤ x ∧ x < 4294967296) ∧ (b = 32 ∨ b = 64)) [.int x t, .int 0 v, .int b u] := by
  unfold SomeInt pr
  k_fill
  intro lo mean mg mb news dp un gd cn cs a ccd cl outer A₀ base h₀ L m s Q E hpre B F X N T hk hdp hun hret
  obtain ⟨⟨hx0, hx1⟩, hb⟩ := hpre
  rcases hb with rfl | rfl
  all_goals refine wpAny_call ?_
  all_goals k_dflt cell_enter
  all_goals k_steps
  all_goals first | (refine' hret _ _ _ _ ?r1 ?r2; (case r1 => first | assumption | k_asm); (case r2 => first | assumption | k_asm)) | w_report
theorem c_rotl (w : World) (x : Int) (t : Tok) (v : Tok) (b : Int) (u : Tok) : SomeInt w 3 219 ((0 ≤ x ∧ x < 4294967296) ∧ (b = 32 ∨ b = 64)) [.int x t, .int 0 v, .int b u] := by
  intro lo mean mg mb news dp un gd cn cs a ccd cl outer A₀ base h₀ L m s Q E hp B F X N T hk hdp hun hret
  exact c_rotl3 w x t 0 v b u lo mean mg mb news dp un gd cn cs a ccd cl outer A₀ base h₀ L m s Q E hp B F X N T hk (by omega) (by omega) hret
theorem c_rotr (w : World) (x : Int) (t : Tok) (v : Tok) (b : Int) (u : Tok) : SomeInt w 3 226 ((0 ≤ x ∧ x < 4294967296) ∧ (b = 32 ∨ b = 64)) [.int x t, .int 0 v, .int b u] := by
  unfold SomeInt pr
  k_fill
  intro lo mean mg mb news dp un gd cn cs a ccd cl outer A₀ base h₀ L m s Q E hpre B F X N T hk hdp hun hret
  obtain ⟨⟨hx0, hx1⟩, hb⟩ := hpre
  rcases hb with rfl | rfl
  all_goals refine wpAny_call ?_
  all_goals k_dflt cell_enter
  all_goals k_steps
  all_goals first | (refine' hret _ _ _ _ ?r1 ?r2; (case r1 => first | assumption | k_asm); (case r2 => first | assumption | k_asm)) | w_report
theorem c_eq (w : World) (x : Int) (t : Tok) (v : Tok) (b : Int) (u : Tok) : SomeInt w 3 233 ((0 ≤ x ∧ x < 4294967296) ∧ (b = 32 ∨ b = 64)) [.int x t, .int 0 v, .int b u] := by
  unfold SomeInt pr
  k_fill
  intro lo mean mg mb news dp un gd cn cs a ccd cl outer A₀ base h₀ L m s Q E hpre B F X N T hk hdp hun hret
  obtain ⟨⟨hx0, hx1⟩, hb⟩ := hpre
  all_goals refine wpAny_call ?_
  all_goals k_dflt cell_enter
  all_goals k_steps
  all_goals first | (refine' hret _ _ _ _ ?r1 ?r2; (case r1 => first | assumption | k_asm); (case r2 => first | assumption | k_asm)) | w_report
theorem c_ne (w : World) (x : Int) (t : Tok) (v : Tok) (b : Int) (u : Tok) : SomeInt w 3 240 ((0 ≤ x ∧ x < 4294967296) ∧ (b = 32 ∨ b = 64)) [.int x t, .int 0 v, .int b u] := by
  unfold SomeInt pr
  k_fill
  intro lo mean mg mb news dp un gd cn cs a ccd cl outer A₀ base h₀ L m s Q E hpre B F X N T hk hdp hun hret
  obtain ⟨⟨hx0, hx1⟩, hb⟩ := hpre
  all_goals refine wpAny_call ?_
  all_goals k_dflt cell_enter
  all_goals k_steps
  all_goals first | (refine' hret _ _ _ _ ?r1 ?r2; (case r1 => first | assumption | k_asm); (case r2 => first | assumption | k_asm)) | w_report
theorem c_lt_s (w : World) (x : Int) (t : Tok) (v : Tok) (b : Int) (u : Tok) : SomeInt w 3 247 ((0 ≤ x ∧ x < 4294967296) ∧ (b = 32 ∨ b = 64)) [.int x t, .int 0 v, .int b u] := by
  intro lo mean mg mb news dp un gd cn cs a ccd cl outer A₀ base h₀ L m s Q E hp B F X N T hk hdp hun hret
  exact c_lt_s3 w x t 0 v b u lo mean mg mb news dp un gd cn cs a ccd cl outer A₀ base h₀ L m s Q E hp.2 B F X N T hk (by omega) (by omega) hret
theorem c_lt_u (w : World) (x : Int) (t : Tok) (v : Tok) (b : Int) (u : Tok) : SomeInt w 3 254 ((0 ≤ x ∧ x < 4294967296) ∧ (b = 32 ∨ b = 64)) [.int x t, .int 0 v, .int b u] := by
  intro lo mean mg mb news dp un gd cn cs a ccd cl outer A₀ base h₀ L m s Q E hp B F X N T hk hdp hun hret
  exact c_lt_u3 w x t 0 v b u lo mean mg mb news dp un gd cn cs a ccd cl outer A₀ base h₀ L m s Q E trivial B F X N T hk (by omega) (by omega) hret
theorem c_gt_s (w : World) (x : Int) (t : Tok) (v : Tok) (b : Int) (u : Tok) : SomeInt w 3 261 ((0 ≤ x ∧ x < 4294967296) ∧ (b = 32 ∨ b = 64)) [.int x t, .int 0 v, .int b u] := by
  unfold SomeInt pr
  k_fill
  intro lo mean mg mb news dp un gd cn cs a ccd cl outer A₀ base h₀ L m s Q E hpre B F X N T hk hdp hun hret
  obtain ⟨⟨hx0, hx1⟩, hb⟩ := hpre
  all_goals refine wpAny_call ?_
  all_goals k_dflt cell_enter
  all_goals k_steps
  all_goals first | (refine' hret _ _ _ _ ?r1 ?r2; (case r1 => first | assumption | k_asm); (case r2 => first | assumption | k_asm)) | w_report
theorem c_gt_u (w : World) (x : Int) (t : Tok) (v : Tok) (b : Int) (u : Tok) : SomeInt w 3 268 ((0 ≤ x ∧ x < 4294967296) ∧ (b = 32 ∨ b = 64)) [.int x t, .int 0 v, .int b u] := by
  unfold SomeInt pr
  k_fill
  intro lo mean mg mb news dp un gd cn cs a ccd cl outer A₀ base h₀ L m s Q E hpre B F X N T hk hdp hun hret
  obtain ⟨⟨hx0, hx1⟩, hb⟩ := hpre
  all_goals refine wpAny_call ?_
  all_goals k_dflt cell_enter
  all_goals k_steps
  all_goals first | (refine' hret _ _ _ _ ?r1 ?r2; (case r1 => first | assumption | k_asm); (case r2 => first | assumption | k_asm)) | w_report
theorem c_le_s (w : World) (x : Int) (t : Tok) (v : Tok) (b : Int) (u : Tok) : SomeInt w 3 275 ((0 ≤ x ∧ x < 4294967296) ∧ (b = 32 ∨ b = 64)) [.int x t, .int 0 v, .int b u] := by
  unfold SomeInt pr
  k_fill
  intro lo mean mg mb news dp un gd cn cs a ccd cl outer A₀ base h₀ L m s Q E hpre B F X N T hk hdp hun hret
  obtain ⟨⟨hx0, hx1⟩, hb⟩ := hpre
  all_goals refine wpAny_call ?_
  all_goals k_dflt cell_enter
  all_goals k_steps
  all_goals first | (refine' hret _ _ _ _ ?r1 ?r2; (case r1 => first | assumption | k_asm); (case r2 => first | assumption | k_asm)) | w_report
theorem c_le_u (w : World) (x : Int) (t : Tok) (v : Tok) (b : Int) (u : Tok) : SomeInt w 3 282 ((0 ≤ x ∧ x < 4294967296) ∧ (b = 32 ∨ b = 64)) [.int x t, .int 0 v, .int b u] := by
  unfold SomeInt pr
  k_fill
  intro lo mean mg mb news dp un gd cn cs a ccd cl outer A₀ base h₀ L m s Q E hpre B F X N T hk hdp hun hret
  obtain ⟨⟨hx0, hx1⟩, hb⟩ := hpre
  all_goals refine wpAny_call ?_
  all_goals k_dflt cell_enter
  all_goals k_steps
  all_goals first | (refine' hret _ _ _ _ ?r1 ?r2; (case r1 => first | assumption | k_asm); (case r2 => first | assumption | k_asm)) | w_report
theorem c_ge_s (w : World) (x : Int) (t : Tok) (v : Tok) (b : Int) (u : Tok) : SomeInt w 3 289 ((0 ≤ x ∧ x < 4294967296) ∧ (b = 32 ∨ b = 64)) [.int x t, .int 0 v, .int b u] := by
  unfold SomeInt pr
  k_fill
  intro lo mean mg mb news dp un gd cn cs a ccd cl outer A₀ base h₀ L m s Q E hpre B F X N T hk hdp hun hret
  obtain ⟨⟨hx0, hx1⟩, hb⟩ := hpre
  all_goals refine wpAny_call ?_
  all_goals k_dflt cell_enter
  all_goals k_steps
  all_goals first | (refine' hret _ _ _ _ ?r1 ?r2; (case r1 => first | assumption | k_asm); (case r2 => first | assumption | k_asm)) | w_report
theorem c_ge_u (w : World) (x : Int) (t : Tok) (v : Tok) (b : Int) (u : Tok) : SomeInt w 3 296 ((0 ≤ x ∧ x < 4294967296) ∧ (b = 32 ∨ b = 64)) [.int x t, .int 0 v, .int b u] := by
  unfold SomeInt pr
  k_fill
  intro lo mean mg mb news dp un gd cn cs a ccd cl outer A₀ base h₀ L m s Q E hpre B F X N T hk hdp hun hret
  obtain ⟨⟨hx0, hx1⟩, hb⟩ := hpre
  all_goals refine wpAny_call ?_
  all_goals k_dflt cell_enter
  all_goals k_steps
  all_goals first | (refine' hret _ _ _ _ ?r1 ?r2; (case r1 => first | assumption | k_asm); (case r2 => first | assumption | k_asm)) | w_report
end
section
theorem top_offC2 : True := by
  w_top off
  k_with_none
  exact True.intro
theorem half_fdiv (b : Int) : b.fdiv (2 ^ Int.toNat 1) = b / 2 := by
  rw [Int.fdiv_eq_ediv_of_nonneg _ (by decide)]; rfl
theorem and_bounds (z : Int) {b : Int} (hb : b = 32 ∨ b = 64) : 0 ≤ Builtin.bitAnd z (1 * 2 ^ b.toNat - 1) ∧ Builtin.bitAnd z (1 * 2 ^ b.toNat - 1) < 18446744073709551616 := by
  rw [Int.one_mul, kbt_mask]
  have h1 := Int.emod_nonneg z (show (2:Int) ^ b.toNat ≠ 0 from Int.ne_of_gt (kbt_pos _))
  have h2 := Int.emod_lt_of_pos z (kbt_pos b.toNat)
  refine ⟨h1, Int.lt_of_lt_of_le h2 ?_⟩
  rcases hb with rfl | rfl <;> decide
theorem fdiv_bounds {x M : Int} (n : Nat) (h0 : 0 ≤ x) (h1 : x < M) : 0 ≤ x.fdiv (2 ^ n) ∧ x.fdiv (2 ^ n) < M := by
  have hp := kbt_pos n
  rw [Int.fdiv_eq_ediv_of_nonneg _ (Int.le_of_lt hp)]
  refine ⟨Int.ediv_nonneg h0 (Int.le_of_lt hp), Int.lt_of_le_of_lt ?_ h1⟩
  exact Int.ediv_le_self _ h0
theorem and_less {x : Int} (h0 : 0 ≤ x) (h : x ≠ 0) : 0 ≤ Builtin.bitAnd x (x - 1) ∧ Builtin.bitAnd x (x - 1) < x := by
  rw [bitAnd_pp h0 (show 0 ≤ x - 1 by omega)]
  have h1 : x.toNat &&& (x - 1).toNat ≤ (x - 1).toNat := Nat.and_le_right
  omega
theorem c_clz (w : World) (x : Int) (t : Tok) (b : Int) (u : Tok) : SomeInt w 3 100 ((0 ≤ x ∧ x < 4294967296) ∧ (b = 32 ∨ b = 64)) [.int x t, .int b u] := by
  unfold SomeInt pr
  k_fill
  intro lo mean mg mb news dp un gd cn cs a ccd cl outer A₀ base h₀ L m s Q E hpre B F X N T hk hdp hun hret
  obtain ⟨⟨hx0, hx1⟩, hb⟩ := hpre
  k_with "state" => (simp only [half_fdiv] at *; first | omega | exact ⟨(and_bounds _ (by assumption)).1, (and_bounds _ (by assumption)).2, by omega, by omega⟩)
  k_with "measure" => (simp only [half_fdiv] at *; omega)
  k_with "exec While Compare cons nil" => k_while (fun _ found x half => 0 ≤ x ∧ x < 18446744073709551616 ∧ 0 ≤ half ∧ 2 * half ≤ b) (fun _ _ _ half => half.toNat) "found" "x" "half"
  refine wpAny_call ?_
  k_dflt cell_enter
  k_steps
  all_goals first | (refine' hret _ _ _ _ ?r1 ?r2; (case r1 => k_asm); (case r2 => k_asm)) | w_report
theorem c_ctz (w : World) (x : Int) (t : Tok) (b : Int) (u : Tok) : SomeInt w 3 107 ((0 ≤ x ∧ x < 4294967296) ∧ (b = 32 ∨ b = 64)) [.int x t, .int b u] := by
  k_with_none
  unfold SomeInt pr
  k_fill
  intro lo mean mg mb news dp un gd cn cs a ccd cl outer A₀ base h₀ L m s Q E hpre B F X N T hk hdp hun hret
  obtain ⟨⟨hx0, hx1⟩, hb⟩ := hpre
  k_with "state" => (simp only [half_fdiv] at *; first | omega | exact ⟨(fdiv_bounds _ (by assumption) (by assumption)).1, (fdiv_bounds _ (by assumption) (by assumption)).2, by omega, by omega⟩)
  k_with "measure" => (simp only [half_fdiv] at *; first | omega)
  k_with "exec While Compare cons nil" => k_while (fun _ found x half => 0 ≤ x ∧ x < 18446744073709551616 ∧ 0 ≤ half ∧ 2 * half ≤ b) (fun _ _ _ half => half.toNat) "found" "x" "half"
  refine wpAny_call ?_
  k_dflt cell_enter
  k_steps
  all_goals first | (refine' hret _ _ _ _ ?r1 ?r2; (case r1 => k_asm); (case r2 => k_asm)) | w_report
theorem c_popcnt (w : World) (x : Int) (t : Tok) (b : Int) (u : Tok) : SomeInt w 3 114 ((0 ≤ x ∧ x < 4294967296) ∧ (b = 32 ∨ b = 64)) [.int x t, .int b u] := by
  k_with_none
  unfold SomeInt pr
  k_fill
  intro lo mean mg mb news dp un gd cn cs a ccd cl outer A₀ base h₀ L m s Q E hpre B F X N T hk hdp hun hret
  obtain ⟨⟨hx0, hx1⟩, hb⟩ := hpre
  k_with "state" => (first | omega | (have h9 := and_less (by assumption) (by assumption); omega))
  k_with "measure" => (first | omega | (have h9 := and_less (by assumption) (by assumption); omega))
  k_with "exec While Compare cons nil" => k_while (fun _ found x => 0 ≤ x ∧ x < 18446744073709551616) (fun _ _ x => x.toNat) "found" "x"
  refine wpAny_call ?_
  k_dflt cell_enter
  k_steps
  all_goals first | (refine' hret _ _ _ _ ?r1 ?r2; (case r1 => k_asm); (case r2 => k_asm)) | w_report
end
section
theorem top_offC4 : True := by
  w_top off
  k_with_none
  exact True.intro
def rowT : Str := ⟨#[49, 50, 50, 50, 50, 50, 50, 50, 50, 50, 50, 49, 50, 50, 50, 50, 50, 50, 50, 50, 50, 50, 48, 48, 48, 48, 48, 48, 48, 48, 48, 48, 48, 48, 49, 49, 49, 50, 50, 50, 50, 50, 50, 50, 50, 50, 50, 50, 50, 50, 50, 50, 49, 49, 49, 50, 50, 50, 50, 50, 50, 50, 50, 50, 50, 50, 50, 50, 50, 50, 48, 48, 48, 48, 48, 48, 48, 48, 48, 48, 48, 48, 48, 48, 48, 48, 48, 48, 48, 48, 48, 48, 48, 48, 48, 48, 48, 48, 49, 48, 48, 48, 48, 49, 49, 48, 48, 48, 48, 48, 48, 48, 48, 48, 48, 48, 48, 48, 48, 48, 48, 48, 48, 49, 49, 49, 49, 49]⟩
theorem row_eq : (Str.ofString "1" ++ Txt.mul (Str.ofString "2") 10 ++ Str.ofString "1" ++ Txt.mul (Str.ofString "2") 10 ++ Txt.mul (Str.ofString "0") 12 ++ Str.ofString "111" ++ Txt.mul (Str.ofString "2") 15 ++ Str.ofString "111" ++ Txt.mul (Str.ofString "2") 15 ++ Txt.mul (Str.ofString "0") 28 ++ Str.ofString "1" ++ Txt.mul (Str.ofString "0") 4 ++ Str.ofString "11" ++ Txt.mul (Str.ofString "0") 18 ++ Str.ofString "11111") = rowT := by kernel_rfl
theorem row_len : rowT.length = 128 := by kernel_rfl
theorem store_row {M : Model} {A : Around} {E : Value → Shared → Prop} {s : Shared} {env : Env} {n : Str} {t : Tok} {Q : Unit → Shared → Prop} (h : wpAny M A (storeName env n (.str rowT t)) Q E s) :
    wpAny M A (storeName env n (.str (Str.ofString "1" ++ Txt.mul (Str.ofString "2") 10 ++ Str.ofString "1" ++ Txt.mul (Str.ofString "2") 10 ++ Txt.mul (Str.ofString "0") 12 ++ Str.ofString "111" ++ Txt.mul (Str.ofString "2") 15 ++ Str.ofString "111" ++ Txt.mul (Str.ofString "2") 15 ++ Txt.mul (Str.ofString "0") 28 ++ Str.ofString "1" ++ Txt.mul (Str.ofString "0") 4 ++ Str.ofString "11" ++ Txt.mul (Str.ofString "0") 18 ++ Str.ofString "11111") t)) Q E s := by
  have e := row_eq
  generalize (Str.ofString "1" ++ Txt.mul (Str.ofString "2") 10 ++ Str.ofString "1" ++ Txt.mul (Str.ofString "2") 10 ++ Txt.mul (Str.ofString "0") 12 ++ Str.ofString "111" ++ Txt.mul (Str.ofString "2") 15 ++ Str.ofString "111" ++ Txt.mul (Str.ofString "2") 15 ++ Txt.mul (Str.ofString "0") 28 ++ Str.ofString "1" ++ Txt.mul (Str.ofString "0") 4 ++ Str.ofString "11" ++ Txt.mul (Str.ofString "0") 18 ++ Str.ofString "11111") = z at e ⊢
  subst e
  exact h
def takesN (k : Nat) : Nat :=
  if k = 0 ∨ k = 11 ∨ (34 ≤ k ∧ k < 37) ∨ (52 ≤ k ∧ k < 55) ∨ k = 98 ∨ k = 103 ∨ k = 104 ∨ (123 ≤ k ∧ k < 128) then 1
  else if (1 ≤ k ∧ k < 11) ∨ (12 ≤ k ∧ k < 22) ∨ (37 ≤ k ∧ k < 52) ∨ (55 ≤ k ∧ k < 70) then 2 else 0
def takesL (code : Int) : Int := if 0 ≤ code - 69 then takesN (code - 69).toNat else 0
theorem row_at : ∀ k : Nat, k < 128 → rowT.cps[k]? = some (48 + takesN k) := by decide +kernel
theorem takes_lt (k : Nat) : takesN k < 3 := by unfold takesN; split <;> (try split) <;> omega
theorem takes_out (code : Int) (h : ¬ code - 69 < 128) : takesL code = 0 := by
  unfold takesL takesN
  split
  · rw [if_neg (by omega), if_neg (by omega)]; rfl
  · rfl
theorem dig_at : ∀ d : Nat, d < 3 → Builtin.Str.occurrences (Str.ofString "012") ⟨#[48 + d]⟩ 0 (Str.ofString "012").length 1 = [d] := by decide +kernel
section
variable {prog : Program} {w : World} {A : Around} {E : Value → Shared → Prop} {s : Shared} {t u : Tok} {Q : Value → Shared → Prop}
theorem row_item {value slice : Expr} {i : Int} (h0 : 0 ≤ i) (h1 : i < 128) (h : Q (.str ⟨#[48 + takesN i.toNat]⟩ s.toks) { s with toks := s.toks + 1 })
    (hs : subscripted slice false (.str rowT t) (.int i u) = operate [.str rowT t, .int i u] (getItem (.str rowT t) (.int i u)) := by with_unfolding_all rfl) :
    wpAny (model prog w) A (subscriptTail value slice (.str rowT t) (.int i u)) Q E s := by
  refine tail_any (typeIs_str _ _ _) F.slot_str_getitem.lookup (P.getItem_str ?_ ?_ h) hs
  · simp only [Bool.or_eq_false_iff, decide_eq_false_iff_not]; omega
  · rw [row_len]
    have e : seqIndex? i 128 = some i.toNat := by
      unfold seqIndex?
      simp only
      first | (split <;> simp_all <;> omega) | omega
    rw [e]
    exact row_at _ (by omega)
theorem dig_index {d : Nat} (hd : d < 3) (h : Q (.int d s.toks) { s with toks := s.toks + 1 }) :
    wpAny (model prog w) A (call (.builtin "str.index") [.str (Str.ofString "012") t, .str ⟨#[48 + d]⟩ u]) Q E s := SC.index (dig_at d hd) h
theorem row_length (h : Q (.int 128 (s.toks + 1)) { s with toks := s.toks + 1 + 1 }) : wpAny (model prog w) A (call (.builtin "len") [.str rowT t]) Q E s :=
  P.len_str (by rw [row_len]; decide) (by rw [row_len]; exact h)
end
theorem words_C4 : True := by
  k_with_none
  k_with "storeName" => ((with_reducible refine store_row ?_); (repeat (rename (Str.length _ + Str.length _ ≤ (_ : Nat) ∧ _) => hz9; clear hz9)))
  k_with "call builtin:len" => ((with_reducible refine row_length ?_); (try dsimp only))
  k_with "subscriptTail" => ((with_reducible show wpAny _ _ (subscriptTail _ _ (Value.str rowT _) (Value.int _ _)) _ _ _); k_dflt (refine row_item (by omega) (by omega) ?_); (try dsimp only))
  k_with "call builtin:str.index" => (k_dflt (refine dig_index (takes_lt _) ?_); (try dsimp only))
  exact True.intro
theorem c_takes (w : World) (code : Int) (t : Tok) : Gives w 3 362 True [.int code t] (fun t => .int (takesL code) t) := by
  unfold Gives pr
  k_fill
  intro lo mean mg mb news dp un gd cn cs a ccd cl outer A₀ base h₀ L m s Q E hpre B F X N T hk hdp hun hret
  refine wpAny_call ?_
  k_dflt cell_enter
  k_steps
  all_goals (refine' cb_retI (Q := Q) hret ?e1 ?e2 ?e3; (case e2 => k_asm); (case e3 => k_asm); (case e1 => first | (unfold takesL; rw [if_pos (by omega)]; done) | (unfold takesL; rw [if_neg (by omega)]; done) | (exact (takes_out _ (by omega)).symm)))
end
section
set_option synthInstance.maxSize 4096
set_option synthInstance.maxHeartbeats 800000
abbrev Narrow (code : Int) : Prop := code = 172 ∨ (192 ≤ code ∧ code < 197)
abbrev T1 (code : Int) : Prop := code = 69 ∨ code = 80 ∨ (103 ≤ code ∧ code < 106) ∨ (121 ≤ code ∧ code < 124) ∨ code = 167 ∨ code = 172 ∨ code = 173 ∨ (192 ≤ code ∧ code < 197)
abbrev T2 (code : Int) : Prop := (70 ≤ code ∧ code < 80) ∨ (81 ≤ code ∧ code < 91) ∨ (106 ≤ code ∧ code < 121) ∨ (124 ≤ code ∧ code < 139)
abbrev Dv (code : Int) : Prop := (109 ≤ code ∧ code < 113) ∨ (127 ≤ code ∧ code < 131)
theorem t1_in {code : Int} (h : T1 code) : 69 ≤ code ∧ code < 197 := by
  rcases h with rfl | rfl | h | h | rfl | rfl | rfl | h <;> constructor <;> omega
theorem t2_in {code : Int} (h : T2 code) : 69 ≤ code ∧ code < 197 := by
  rcases h with h | h | h | h <;> constructor <;> omega
theorem at_code {P : Int → Prop} (key : ∀ k : Nat, k < 128 → P (69 + (k : Int))) {code : Int} (hb : 69 ≤ code ∧ code < 197) : P code := by
  have e : code = 69 + ((code - 69).toNat : Int) := by omega
  rw [e]
  exact key _ (by omega)
theorem takes_T1 {code : Int} (h : T1 code) : takesL code = 1 :=
  at_code (P := fun c => T1 c → takesL c = 1) (by decide +kernel) (t1_in h) h
theorem takes_T2 {code : Int} (h : T2 code) : takesL code = 2 :=
  at_code (P := fun c => T2 c → takesL c = 2) (by decide +kernel) (t2_in h) h
theorem takes_T0 {code : Int} (h1 : ¬ T1 code) (h2 : ¬ T2 code) : takesL code = 0 := by
  by_cases hb : 69 ≤ code ∧ code < 197
  · exact at_code (P := fun c => ¬ T1 c → ¬ T2 c → takesL c = 0) (by decide +kernel) hb h1 h2
  · by_cases h0 : 0 ≤ code - 69
    · exact takes_out code (by omega)
    · unfold takesL
      rw [if_neg h0]
theorem narrow_kin {code : Int} (h : Narrow code) : T1 code ∧ ¬ T2 code ∧ ¬ Dv code := 
  at_code (P := fun c => Narrow c → T1 c ∧ ¬ T2 c ∧ ¬ Dv c) (by decide +kernel) (by rcases h with rfl | h <;> constructor <;> omega) h
theorem dv_kin {code : Int} (h : Dv code) : ¬ T1 code ∧ T2 code := 
  at_code (P := fun c => Dv c → ¬ T1 c ∧ T2 c) (by decide +kernel) (by rcases h with h | h <;> constructor <;> omega) h
theorem t2_kin {code : Int} (h : T2 code) : ¬ T1 code := 
  at_code (P := fun c => T2 c → ¬ T1 c) (by decide +kernel) (t2_in h) h
theorem t1_cases {code : Int} (h : T1 code) : code ∈ ([69, 80, 103, 104, 105, 121, 122, 123, 167, 173] : List Int) ∨ Narrow code :=
  at_code (P := fun c => T1 c → c ∈ ([69, 80, 103, 104, 105, 121, 122, 123, 167, 173] : List Int) ∨ Narrow c) (by decide +kernel) (t1_in h) h
theorem t2_cases {code : Int} (h : T2 code) (hd : ¬ Dv code) : (code ∈ ([106, 107, 108, 113, 114, 115, 116, 117, 118, 119, 120] : List Int) ∨ code ∈ ([124, 125, 126, 131, 132, 133, 134, 135, 136, 137, 138] : List Int)) ∨ (code ∈ ([70, 71, 72, 73, 74, 75, 76, 77, 78, 79] : List Int) ∨ code ∈ ([81, 82, 83, 84, 85, 86, 87, 88, 89, 90] : List Int)) :=
  at_code (P := fun c => T2 c → ¬ Dv c → (c ∈ ([106, 107, 108, 113, 114, 115, 116, 117, 118, 119, 120] : List Int) ∨ c ∈ ([124, 125, 126, 131, 132, 133, 134, 135, 136, 137, 138] : List Int)) ∨ (c ∈ ([70, 71, 72, 73, 74, 75, 76, 77, 78, 79] : List Int) ∨ c ∈ ([81, 82, 83, 84, 85, 86, 87, 88, 89, 90] : List Int))) (by decide +kernel) (t2_in h) h hd
theorem dv_cases {code : Int} (h : Dv code) : code ∈ ([109, 110, 111, 112] : List Int) ∨ code ∈ ([127, 128, 129, 130] : List Int) :=
  at_code (P := fun c => Dv c → c ∈ ([109, 110, 111, 112] : List Int) ∨ c ∈ ([127, 128, 129, 130] : List Int)) (by decide +kernel) (by rcases h with h | h <;> constructor <;> omega) h
end
section
/-- a def's claim: a new pair of ints comes back, nothing else stands anew -/
abbrev GivesPair (w : World) (k : Nat) (f : Addr) (pre : Prop) (vs : List Value) (x y : Int) : Prop :=
  ∀ (lo : List Str) (mean : ExcName → Option Value) (mg mb : Str → Option Value) (news : List (Addr × Obj)) (dp un : Nat) (gd : Option (List Code)) (cn : Str) (cs : Scope) (a : Addr) (ccd : Value) (cl : List (Str × Addr)) (outer : List Env) (A₀ : Around) (base h₀ : Heap) (L : Addr) (m : Str → Option Value) (s : Shared) (Q E : Value → Shared → Prop),
    pre → Below A₀ base outer h₀ → Fr h₀ L s.heap m → (K0 w.params).In h₀ → News h₀ L s.heap news → Top topProg lo mean mg mb h₀ → cs.kind = .function →
    dp + k < recursionLimit → un + 8 * k < cLine →
    (∀ (D : Addr) (t1 t2 : Tok) (h' : Heap) (tk' : Nat), Fr h₀ L h' m → News h₀ L h' ((D, { cls := .type "tuple", data := .seq #[.int x t1, .int y t2] }) :: news) → Q (.ref D) { s with heap := h', toks := tk' }) →
      wpAny (model pr w) (ktrTop dp un gd cn cs L a ccd cl outer) (call (.ref f) vs) Q E s
theorem GivesPair.use {w : World} {k : Nat} {f : Addr} {pre : Prop} {vs : List Value} {x y : Int} {lo : List Str} {mean : ExcName → Option Value} {mg mb : Str → Option Value} {news : List (Addr × Obj)} {dp un : Nat} {gd : Option (List Code)} {cn : Str} {cs : Scope} {a : Addr} {ccd : Value} {cl : List (Str × Addr)} {outer : List Env} {A₀ : Around} {base h₀ : Heap} {L : Addr} {m : Str → Option Value} {s : Shared} {Q E : Value → Shared → Prop}
    (C : GivesPair w k f pre vs x y) (hp : pre) (B : Below A₀ base outer h₀) (F : Fr h₀ L s.heap m) (X : (K0 w.params).In h₀) (N : News h₀ L s.heap news) (T : Top topProg lo mean mg mb h₀) (hk : cs.kind = .function)
    (hd : dp + k < recursionLimit) (hu : un + 8 * k < cLine)
    (ret : ∀ (D : Addr) (t1 t2 : Tok) (h' : Heap) (tk' : Nat), Fr h₀ L h' m → News h₀ L h' ((D, { cls := .type "tuple", data := .seq #[.int x t1, .int y t2] }) :: news) → Q (.ref D) { s with heap := h', toks := tk' }) :
    wpAny (model pr w) (ktrTop dp un gd cn cs L a ccd cl outer) (call (.ref f) vs) Q E s :=
  C lo mean mg mb news dp un gd cn cs a ccd cl outer A₀ base h₀ L m s Q E hp B F X N T hk hd hu ret
theorem news_pick {h₀ h : Heap} {L D : Addr} {o : Obj} {big small : List (Addr × Obj)} (N : News h₀ L h big) (hm : (D, o) ∈ big) (ht : ∀ p ∈ small, p ∈ big) : News h₀ L h ((D, o) :: small) := fun p hp => by
  rcases List.mem_cons.mp hp with rfl | hp
  · exact N _ hm
  · exact N _ (ht _ hp)
def nN (code : Int) : Int := if code = 172 then 32 else if code = 192 then 8 else if code = 193 then 16 else if code = 194 then 8 else if code = 195 then 16 else 32
def nB (code : Int) : Int := if code = 172 then 64 else if code = 192 then 32 else if code = 193 then 32 else 64
end
section
theorem top_offX18 : True := by
  w_top off
  k_with_none
  exact True.intro
theorem nar_172 (w : World) (t : Tok) : GivesPair w 4 313 True [.int 172 t] 32 64 := by
  k_with_none
  unfold GivesPair pr
  k_fill
  intro lo mean mg mb news dp un gd cn cs a ccd cl outer A₀ base h₀ L m s Q E hpre B F X N T hk hdp hun hret
  refine wpAny_call ?_
  k_dflt cell_enter
  k_steps
  all_goals first | (refine' hret _ _ _ _ _ ?ra ?rb; (case ra => k_asm); (case rb => refine news_pick (by with_reducible assumption) ?hm ?ht; (case hm => repeat (first | exact List.Mem.head _ | apply List.Mem.tail)); (case ht => intro p hp; (repeat (first | exact hp | apply List.Mem.tail))))) | w_report
theorem nar_192 (w : World) (t : Tok) : GivesPair w 4 313 True [.int 192 t] 8 32 := by
  k_with_none
  unfold GivesPair pr
  k_fill
  intro lo mean mg mb news dp un gd cn cs a ccd cl outer A₀ base h₀ L m s Q E hpre B F X N T hk hdp hun hret
  refine wpAny_call ?_
  k_dflt cell_enter
  k_steps
  all_goals first | (refine' hret _ _ _ _ _ ?ra ?rb; (case ra => k_asm); (case rb => refine news_pick (by with_reducible assumption) ?hm ?ht; (case hm => repeat (first | exact List.Mem.head _ | apply List.Mem.tail)); (case ht => intro p hp; (repeat (first | exact hp | apply List.Mem.tail))))) | w_report
theorem nar_193 (w : World) (t : Tok) : GivesPair w 4 313 True [.int 193 t] 16 32 := by
  k_with_none
  unfold GivesPair pr
  k_fill
  intro lo mean mg mb news dp un gd cn cs a ccd cl outer A₀ base h₀ L m s Q E hpre B F X N T hk hdp hun hret
  refine wpAny_call ?_
  k_dflt cell_enter
  k_steps
  all_goals first | (refine' hret _ _ _ _ _ ?ra ?rb; (case ra => k_asm); (case rb => refine news_pick (by with_reducible assumption) ?hm ?ht; (case hm => repeat (first | exact List.Mem.head _ | apply List.Mem.tail)); (case ht => intro p hp; (repeat (first | exact hp | apply List.Mem.tail))))) | w_report
theorem nar_194 (w : World) (t : Tok) : GivesPair w 4 313 True [.int 194 t] 8 64 := by
  k_with_none
  unfold GivesPair pr
  k_fill
  intro lo mean mg mb news dp un gd cn cs a ccd cl outer A₀ base h₀ L m s Q E hpre B F X N T hk hdp hun hret
  refine wpAny_call ?_
  k_dflt cell_enter
  k_steps
  all_goals first | (refine' hret _ _ _ _ _ ?ra ?rb; (case ra => k_asm); (case rb => refine news_pick (by with_reducible assumption) ?hm ?ht; (case hm => repeat (first | exact List.Mem.head _ | apply List.Mem.tail)); (case ht => intro p hp; (repeat (first | exact hp | apply List.Mem.tail))))) | w_report
theorem nar_195 (w : World) (t : Tok) : GivesPair w 4 313 True [.int 195 t] 16 64 := by
  k_with_none
  unfold GivesPair pr
  k_fill
  intro lo mean mg mb news dp un gd cn cs a ccd cl outer A₀ base h₀ L m s Q E hpre B F X N T hk hdp hun hret
  refine wpAny_call ?_
  k_dflt cell_enter
  k_steps
  all_goals first | (refine' hret _ _ _ _ _ ?ra ?rb; (case ra => k_asm); (case rb => refine news_pick (by with_reducible assumption) ?hm ?ht; (case hm => repeat (first | exact List.Mem.head _ | apply List.Mem.tail)); (case ht => intro p hp; (repeat (first | exact hp | apply List.Mem.tail))))) | w_report
theorem nar_196 (w : World) (t : Tok) : GivesPair w 4 313 True [.int 196 t] 32 64 := by
  k_with_none
  unfold GivesPair pr
  k_fill
  intro lo mean mg mb news dp un gd cn cs a ccd cl outer A₀ base h₀ L m s Q E hpre B F X N T hk hdp hun hret
  refine wpAny_call ?_
  k_dflt cell_enter
  k_steps
  all_goals first | (refine' hret _ _ _ _ _ ?ra ?rb; (case ra => k_asm); (case rb => refine news_pick (by with_reducible assumption) ?hm ?ht; (case hm => repeat (first | exact List.Mem.head _ | apply List.Mem.tail)); (case ht => intro p hp; (repeat (first | exact hp | apply List.Mem.tail))))) | w_report
theorem nar_all (w : World) (code : Int) (t : Tok) : GivesPair w 4 313 (Narrow code) [.int code t] (nN code) (nB code) := fun lo mean mg mb news dp un gd cn cs a ccd cl outer A₀ base h₀ L m s Q E hp => by
  have hcs : code = 172 ∨ code = 192 ∨ code = 193 ∨ code = 194 ∨ code = 195 ∨ code = 196 := by unfold Narrow at hp; omega
  rcases hcs with rfl | rfl | rfl | rfl | rfl | rfl
  · exact nar_172 w t lo mean mg mb news dp un gd cn cs a ccd cl outer A₀ base h₀ L m s Q E trivial
  · exact nar_192 w t lo mean mg mb news dp un gd cn cs a ccd cl outer A₀ base h₀ L m s Q E trivial
  · exact nar_193 w t lo mean mg mb news dp un gd cn cs a ccd cl outer A₀ base h₀ L m s Q E trivial
  · exact nar_194 w t lo mean mg mb news dp un gd cn cs a ccd cl outer A₀ base h₀ L m s Q E trivial
  · exact nar_195 w t lo mean mg mb news dp un gd cn cs a ccd cl outer A₀ base h₀ L m s Q E trivial
  · exact nar_196 w t lo mean mg mb news dp un gd cn cs a ccd cl outer A₀ base h₀ L m s Q E trivial
end
section
theorem top_offP1 : True := by
  w_top off
  k_with_none
  exact True.intro
theorem pl_A (w : World) (code first second many : Int) (t t1 t2 t3 : Tok) : GivesPair w 4 306 ((first ≤ code ∧ code < first + many)) [.int code t, .int first t1, .int second t2, .int many t3] (code - first) 32 := by
  k_with_none
  unfold GivesPair pr
  k_fill
  intro lo mean mg mb news dp un gd cn cs a ccd cl outer A₀ base h₀ L m s Q E hpre B F X N T hk hdp hun hret
  refine wpAny_call ?_
  k_dflt cell_enter
  k_steps
  all_goals first | (refine' hret _ _ _ _ _ ?ra ?rb; (case ra => k_asm); (case rb => refine news_pick (by with_reducible assumption) ?hm ?ht; (case hm => repeat (first | exact List.Mem.head _ | apply List.Mem.tail)); (case ht => intro p hp; (repeat (first | exact hp | apply List.Mem.tail))))) | w_report
theorem pl_B (w : World) (code first second many : Int) (t t1 t2 t3 : Tok) : GivesPair w 4 306 (¬ (first ≤ code ∧ code < first + many) ∧ (second ≤ code ∧ code < second + many)) [.int code t, .int first t1, .int second t2, .int many t3] (code - second) 64 := by
  k_with_none
  unfold GivesPair pr
  k_fill
  intro lo mean mg mb news dp un gd cn cs a ccd cl outer A₀ base h₀ L m s Q E hpre B F X N T hk hdp hun hret
  refine wpAny_call ?_
  k_dflt cell_enter
  k_steps
  all_goals first | (refine' hret _ _ _ _ _ ?ra ?rb; (case ra => k_asm); (case rb => refine news_pick (by with_reducible assumption) ?hm ?ht; (case hm => repeat (first | exact List.Mem.head _ | apply List.Mem.tail)); (case ht => intro p hp; (repeat (first | exact hp | apply List.Mem.tail))))) | w_report
theorem pl_N (w : World) (code first second many : Int) (t t1 t2 t3 : Tok) : Gives w 4 306 (¬ (first ≤ code ∧ code < first + many) ∧ ¬ (second ≤ code ∧ code < second + many)) [.int code t, .int first t1, .int second t2, .int many t3] (fun _ => .none) := by
  k_with_none
  unfold Gives pr
  k_fill
  intro lo mean mg mb news dp un gd cn cs a ccd cl outer A₀ base h₀ L m s Q E hpre B F X N T hk hdp hun hret
  refine wpAny_call ?_
  k_dflt cell_enter
  k_steps
  all_goals first | (refine' hret 0 _ _ ?e2 ?e3; (case e2 => k_asm); (case e3 => refine fun p hp => (by with_reducible assumption : News _ _ _ _) p ?_; (repeat (first | exact hp | apply List.Mem.tail)))) | w_report
end
section
theorem top_offC5 : True := by
  w_top off
  k_with_none
  exact True.intro
abbrev InA (code first many : Int) : Prop := first ≤ code ∧ code < first + many
theorem place_call {M : Model} {A : Around} {Q E : Value → Shared → Prop} {s : Shared} {code first second many : Int} {t t1 t2 t3 : Tok} (hA : InA code first many → wpAny M A (call (.ref 306) [.int code t, .int first t1, .int second t2, .int many t3]) Q E s) (hB : ¬ InA code first many ∧ InA code second many → wpAny M A (call (.ref 306) [.int code t, .int first t1, .int second t2, .int many t3]) Q E s) (hN : ¬ InA code first many ∧ ¬ InA code second many → wpAny M A (call (.ref 306) [.int code t, .int first t1, .int second t2, .int many t3]) Q E s) : wpAny M A (call (.ref 306) [.int code t, .int first t1, .int second t2, .int many t3]) Q E s := by
  by_cases h1 : InA code first many
  · exact hA h1
  · by_cases h2 : InA code second many
    · exact hB ⟨h1, h2⟩
    · exact hN ⟨h1, h2⟩
theorem narrow_call {M : Model} {A : Around} {Q E : Value → Shared → Prop} {s : Shared} {code : Int} {t : Tok} (h1 : Narrow code → wpAny M A (call (.ref 313) [.int code t]) Q E s) (h2 : ¬ Narrow code → wpAny M A (call (.ref 313) [.int code t]) Q E s) : wpAny M A (call (.ref 313) [.int code t]) Q E s := by
  by_cases h : Narrow code
  · exact h1 h
  · exact h2 h
theorem c_narrow_none (w : World) (code : Int) (t : Tok) : Gives w 4 313 (¬ Narrow code) [.int code t] (fun _ => .none) := by
  unfold Gives pr
  k_fill
  intro lo mean mg mb news dp un gd cn cs a ccd cl outer A₀ base h₀ L m s Q E hpre B F X N T hk hdp hun hret
  unfold Narrow at hpre
  refine wpAny_call ?_
  k_dflt cell_enter
  k_steps
  all_goals first | (refine' hret 0 _ _ ?e2 ?e3; (case e2 => k_asm); (case e3 => k_asm)) | w_report
theorem words_C5 : True := by
  k_with_none
  k_with "call ref cons nil" => (k_here; (with_reducible refine narrow_call ?_ ?_) <;> intro hp9 <;> k_dflt ((first | (refine' GivesPair.use (nar_all _ _ _) ?kp ?k1 ?k2 ?k3 ?k4 ?k5 ?kK ?kd ?ku ?_; (case kp => with_reducible assumption); (case k1 => k_asm); (case k2 => k_asm); (case k3 => k_asm); (case k4 => k_asm); (case k5 => k_asm); (case kK => first | exact rfl | assumption); (case kd => k_room); (case ku => k_units); intro D9 t8 t9 h9 tk9 F9 N9) | (refine' Gives.use (c_narrow_none _ _ _) ?kp ?k1 ?k2 ?k3 ?k4 ?k5 ?kK ?kd ?ku ?_; (case kp => with_reducible assumption); (case k1 => k_asm); (case k2 => k_asm); (case k3 => k_asm); (case k4 => k_asm); (case k5 => k_asm); (case kK => first | exact rfl | assumption); (case kd => k_room); (case ku => k_units); intro t9 h9 tk9 F9 N9)); (try dsimp only); (try k_fold)); walk_say "NARROW")
  k_with "call ref cons nil" => (k_here; (with_reducible refine place_call ?_ ?_ ?_) <;> intro hp9 <;> k_dflt ((first | (refine' GivesPair.use (pl_A _ _ _ _ _ _ _ _ _) ?kp ?k1 ?k2 ?k3 ?k4 ?k5 ?kK ?kd ?ku ?_; (case kp => with_reducible assumption); (case k1 => k_asm); (case k2 => k_asm); (case k3 => k_asm); (case k4 => k_asm); (case k5 => k_asm); (case kK => first | exact rfl | assumption); (case kd => k_room); (case ku => k_units); intro D9 t8 t9 h9 tk9 F9 N9) | (refine' GivesPair.use (pl_B _ _ _ _ _ _ _ _ _) ?kp ?k1 ?k2 ?k3 ?k4 ?k5 ?kK ?kd ?ku ?_; (case kp => with_reducible assumption); (case k1 => k_asm); (case k2 => k_asm); (case k3 => k_asm); (case k4 => k_asm); (case k5 => k_asm); (case kK => first | exact rfl | assumption); (case kd => k_room); (case ku => k_units); intro D9 t8 t9 h9 tk9 F9 N9) | (refine' Gives.use (pl_N _ _ _ _ _ _ _ _ _) ?kp ?k1 ?k2 ?k3 ?k4 ?k5 ?kK ?kd ?ku ?_; (case kp => with_reducible assumption); (case k1 => k_asm); (case k2 => k_asm); (case k3 => k_asm); (case k4 => k_asm); (case k5 => k_asm); (case kK => first | exact rfl | assumption); (case kd => k_room); (case ku => k_units); intro t9 h9 tk9 F9 N9)); (try dsimp only); (try k_fold)); walk_say "PLACE")
  k_with "callWith ref nil nil" => (k_here; k_dflt (refine' callWith_K ?k1 ?k2 ?_; (case k1 => k_asm); (case k2 => k_is); k_whole))
  k_with "subscriptTail Name Constant ref int" => (k_here; k_dflt (refine item_tupleT (News.isTup (by k_asm) (by k_mem)) (by decide) (by decide) rfl rfl ?_))
  exact True.intro
theorem c_is_unary (w : World) (code : Int) (t : Tok) (v : Bool) : Gives w 6 320 (v = decide (T1 code)) [.int code t] (fun _ => .bool v) := by
  unfold Gives pr
  k_fill
  intro lo mean mg mb news dp un gd cn cs a ccd cl outer A₀ base h₀ L m s Q E hpre B F X N T hk hdp hun hret
  subst hpre
  refine wpAny_call ?_
  k_dflt cell_enter
  k_steps
  all_goals first | (refine' cb_retB (Q := Q) hret ?e1 ?e2 ?e3; (case e2 => k_asm); (case e3 => refine fun p hp => (by with_reducible assumption : News _ _ _ _) p ?_; (repeat (first | exact hp | apply List.Mem.tail))); (case e1 => unfold T1; first | rfl | ((try (rename (List.any _ _ = _) => hz; simp only [List.any_cons, List.any_nil, Bool.or_false, Bool.or_eq_true, Bool.or_eq_false_iff, beq_iff_eq, beq_eq_false_iff_ne, ne_eq] at hz)); symm; simp only [decide_eq_true_eq, decide_eq_false_iff_not]; omega) | (refine decide_eq_decide.mpr ?_; omega) | (trace_state; fail "e1"))) | w_report
theorem c_is_binary (w : World) (code : Int) (t : Tok) (v : Bool) : Gives w 6 327 (v = decide (T2 code)) [.int code t] (fun _ => .bool v) := by
  unfold Gives pr
  k_fill
  intro lo mean mg mb news dp un gd cn cs a ccd cl outer A₀ base h₀ L m s Q E hpre B F X N T hk hdp hun hret
  subst hpre
  refine wpAny_call ?_
  k_dflt cell_enter
  k_steps
  all_goals first | (refine' cb_retB (Q := Q) hret ?e1 ?e2 ?e3; (case e2 => k_asm); (case e3 => refine fun p hp => (by with_reducible assumption : News _ _ _ _) p ?_; (repeat (first | exact hp | apply List.Mem.tail))); (case e1 => unfold T2; first | rfl | ((try (rename (List.any _ _ = _) => hz; simp only [List.any_cons, List.any_nil, Bool.or_false, Bool.or_eq_true, Bool.or_eq_false_iff, beq_iff_eq, beq_eq_false_iff_ne, ne_eq] at hz)); symm; simp only [decide_eq_true_eq, decide_eq_false_iff_not]; omega) | (refine decide_eq_decide.mpr ?_; omega) | (trace_state; fail "e1"))) | w_report
theorem c_can_trap (w : World) (code : Int) (t : Tok) (v : Bool) : Gives w 6 334 (v = decide (Dv code)) [.int code t] (fun _ => .bool v) := by
  unfold Gives pr
  k_fill
  intro lo mean mg mb news dp un gd cn cs a ccd cl outer A₀ base h₀ L m s Q E hpre B F X N T hk hdp hun hret
  subst hpre
  refine wpAny_call ?_
  k_dflt cell_enter
  k_steps
  all_goals first | (refine' cb_retB (Q := Q) hret ?e1 ?e2 ?e3; (case e2 => k_asm); (case e3 => refine fun p hp => (by with_reducible assumption : News _ _ _ _) p ?_; (repeat (first | exact hp | apply List.Mem.tail))); (case e1 => unfold Dv; first | rfl | ((try (rename (List.any _ _ = _) => hz; simp only [List.any_cons, List.any_nil, Bool.or_false, Bool.or_eq_true, Bool.or_eq_false_iff, beq_iff_eq, beq_eq_false_iff_ne, ne_eq] at hz)); symm; simp only [decide_eq_true_eq, decide_eq_false_iff_not]; omega) | (refine decide_eq_decide.mpr ?_; omega) | (trace_state; fail "e1"))) | w_report
end
section
theorem top_offC3 : True := by
  w_top off
  k_with_none
  exact True.intro
theorem c_widened (w : World) (x : Int) (t : Tok) (n : Int) (v : Tok) (b : Int) (u : Tok) : SomeInt w 3 86 ((0 ≤ x ∧ x < 4294967296) ∧ (n = 8 ∨ n = 16 ∨ n = 32) ∧ (b = 32 ∨ b = 64)) [.int x t, .int n v, .int b u] := by
  unfold SomeInt pr
  k_fill
  intro lo mean mg mb news dp un gd cn cs a ccd cl outer A₀ base h₀ L m s Q E hpre B F X N T hk hdp hun hret
  obtain ⟨⟨hx0, hx1⟩, hn, hb⟩ := hpre
  refine wpAny_call ?_
  k_dflt cell_enter
  k_steps
  all_goals first | (refine' hret _ _ _ _ ?r1 ?r2; (case r1 => k_asm); (case r2 => k_asm)) | w_report
theorem nN_ok (code : Int) : nN code = 8 ∨ nN code = 16 ∨ nN code = 32 := by
  unfold nN
  repeat' split
  all_goals omega
theorem nB_ok (code : Int) : nB code = 32 ∨ nB code = 64 := by
  unfold nB
  repeat' split
  all_goals omega
theorem words_C3 : True := by
  k_with_none
  k_with "call ref cons nil" => (k_here; k_dflt (first | refine' SomeInt.use (c_clz _ _ _ _ _ ) ?kp ?k1 ?k2 ?k3 ?k4 ?k5 ?kK ?kd ?ku ?_ | refine' SomeInt.use (c_ctz _ _ _ _ _ ) ?kp ?k1 ?k2 ?k3 ?k4 ?k5 ?kK ?kd ?ku ?_ | refine' SomeInt.use (c_popcnt _ _ _ _ _ ) ?kp ?k1 ?k2 ?k3 ?k4 ?k5 ?kK ?kd ?ku ?_ | refine' SomeInt.use (c_widened _ _ _ _ _ _ _ ) ?kp ?k1 ?k2 ?k3 ?k4 ?k5 ?kK ?kd ?ku ?_); (case kp => first | omega | exact ⟨⟨by omega, by omega⟩, by decide, by decide⟩ | exact ⟨⟨by omega, by omega⟩, nN_ok _, nB_ok _⟩); (case k1 => k_asm); (case k2 => k_asm); (case k3 => k_asm); (case k4 => k_asm); (case k5 => k_asm); (case kK => first | exact rfl | assumption); (case kd => k_room); (case ku => k_units); intro r9 t9 h9 tk9 F9 N9; (try dsimp only); (try k_fold); walk_say "CONTRACT")
  k_with "call ref cons nil" => (k_here; k_dflt ((first | ((first | (refine' GivesPair.use (pl_A _ _ _ _ _ _ _ _ _) ?kp ?k1 ?k2 ?k3 ?k4 ?k5 ?kK ?kd ?ku ?_; (case kp => omega)) | (refine' GivesPair.use (pl_B _ _ _ _ _ _ _ _ _) ?kp ?k1 ?k2 ?k3 ?k4 ?k5 ?kK ?kd ?ku ?_; (case kp => omega)) | (refine' GivesPair.use (nar_all _ _ _) ?kp ?k1 ?k2 ?k3 ?k4 ?k5 ?kK ?kd ?ku ?_; (case kp => with_reducible assumption))); (case k1 => k_asm); (case k2 => k_asm); (case k3 => k_asm); (case k4 => k_asm); (case k5 => k_asm); (case kK => first | exact rfl | assumption); (case kd => k_room); (case ku => k_units); intro D9 t8 t9 h9 tk9 F9 N9) | ((refine' Gives.use (pl_N _ _ _ _ _ _ _ _ _) ?kp ?k1 ?k2 ?k3 ?k4 ?k5 ?kK ?kd ?ku ?_; (case kp => omega)); (case k1 => k_asm); (case k2 => k_asm); (case k3 => k_asm); (case k4 => k_asm); (case k5 => k_asm); (case kK => first | exact rfl | assumption); (case kd => k_room); (case ku => k_units); intro t9 h9 tk9 F9 N9)); (try dsimp only); (try k_fold)); walk_say "PLACE")
  k_with "callWith ref nil nil" => (k_here; k_dflt (refine' callWith_K ?k1 ?k2 ?_; (case k1 => k_asm); (case k2 => k_is); k_whole))
  k_with "subscriptTail Name Constant ref int" => (k_here; k_dflt (refine item_tupleT (News.isTup (by k_asm) (by k_mem)) (by decide) (by decide) rfl rfl ?_))
  k_with "ite" => (first | (with_reducible refine ite_ff ?_) | (with_reducible refine ite_tt ?_) | (refine ite_neg (by with_reducible assumption) ?_) | (refine ite_neg (by decide) ?_) | (refine ite_pos (by decide) ?_))
  exact True.intro
theorem r1_nar (w : World) (code x : Int) (t u : Tok) : SomeInt w 6 341 ((0 ≤ x ∧ x < 4294967296) ∧ Narrow code) [.int code u, .int x t] := by
  unfold SomeInt pr
  k_fill
  intro lo mean mg mb news dp un gd cn cs a ccd cl outer A₀ base h₀ L m s Q E hpre B F X N T hk hdp hun hret
  obtain ⟨⟨hx0, hx1⟩, hn⟩ := hpre
  have hn2 : code = 172 ∨ (192 ≤ code ∧ code < 197) := hn
  have q69 : ¬ ((code == 69) = true) := fun e => by
    have e2 := eq_of_beq e
    unfold Narrow at hn
    omega
  have q80 : ¬ ((code == 80) = true) := fun e => by
    have e2 := eq_of_beq e
    unfold Narrow at hn
    omega
  have q167 : ¬ ((code == 167) = true) := fun e => by
    have e2 := eq_of_beq e
    unfold Narrow at hn
    omega
  have q173 : ¬ ((code == 173) = true) := fun e => by
    have e2 := eq_of_beq e
    unfold Narrow at hn
    omega
  refine wpAny_call ?_
  k_dflt cell_enter
  k_steps
  all_goals first | (refine' hret _ _ _ _ ?r1 ?r2; (case r1 => k_asm); (case r2 => refine fun p hp => (by with_reducible assumption : News _ _ _ _) p ?_; (repeat (first | exact hp | apply List.Mem.tail)))) | w_report
theorem r1_69 (w : World) (x : Int) (t u : Tok) : SomeInt w 6 341 (0 ≤ x ∧ x < 4294967296) [.int 69 u, .int x t] := by
  unfold SomeInt pr
  k_fill
  intro lo mean mg mb news dp un gd cn cs a ccd cl outer A₀ base h₀ L m s Q E hpre B F X N T hk hdp hun hret
  obtain ⟨hx0, hx1⟩ := hpre
  refine wpAny_call ?_
  k_dflt cell_enter
  k_steps
  all_goals first | (refine' hret _ _ _ _ ?r1 ?r2; (case r1 => k_asm); (case r2 => refine fun p hp => (by with_reducible assumption : News _ _ _ _) p ?_; (repeat (first | exact hp | apply List.Mem.tail)))) | w_report
theorem r1_80 (w : World) (x : Int) (t u : Tok) : SomeInt w 6 341 (0 ≤ x ∧ x < 4294967296) [.int 80 u, .int x t] := by
  unfold SomeInt pr
  k_fill
  intro lo mean mg mb news dp un gd cn cs a ccd cl outer A₀ base h₀ L m s Q E hpre B F X N T hk hdp hun hret
  obtain ⟨hx0, hx1⟩ := hpre
  refine wpAny_call ?_
  k_dflt cell_enter
  k_steps
  all_goals first | (refine' hret _ _ _ _ ?r1 ?r2; (case r1 => k_asm); (case r2 => refine fun p hp => (by with_reducible assumption : News _ _ _ _) p ?_; (repeat (first | exact hp | apply List.Mem.tail)))) | w_report
theorem r1_103 (w : World) (x : Int) (t u : Tok) : SomeInt w 6 341 (0 ≤ x ∧ x < 4294967296) [.int 103 u, .int x t] := by
  unfold SomeInt pr
  k_fill
  intro lo mean mg mb news dp un gd cn cs a ccd cl outer A₀ base h₀ L m s Q E hpre B F X N T hk hdp hun hret
  obtain ⟨hx0, hx1⟩ := hpre
  refine wpAny_call ?_
  k_dflt cell_enter
  k_steps
  all_goals first | (refine' hret _ _ _ _ ?r1 ?r2; (case r1 => k_asm); (case r2 => refine fun p hp => (by with_reducible assumption : News _ _ _ _) p ?_; (repeat (first | exact hp | apply List.Mem.tail)))) | w_report
theorem r1_104 (w : World) (x : Int) (t u : Tok) : SomeInt w 6 341 (0 ≤ x ∧ x < 4294967296) [.int 104 u, .int x t] := by
  unfold SomeInt pr
  k_fill
  intro lo mean mg mb news dp un gd cn cs a ccd cl outer A₀ base h₀ L m s Q E hpre B F X N T hk hdp hun hret
  obtain ⟨hx0, hx1⟩ := hpre
  refine wpAny_call ?_
  k_dflt cell_enter
  k_steps
  all_goals first | (refine' hret _ _ _ _ ?r1 ?r2; (case r1 => k_asm); (case r2 => refine fun p hp => (by with_reducible assumption : News _ _ _ _) p ?_; (repeat (first | exact hp | apply List.Mem.tail)))) | w_report
theorem r1_105 (w : World) (x : Int) (t u : Tok) : SomeInt w 6 341 (0 ≤ x ∧ x < 4294967296) [.int 105 u, .int x t] := by
  unfold SomeInt pr
  k_fill
  intro lo mean mg mb news dp un gd cn cs a ccd cl outer A₀ base h₀ L m s Q E hpre B F X N T hk hdp hun hret
  obtain ⟨hx0, hx1⟩ := hpre
  refine wpAny_call ?_
  k_dflt cell_enter
  k_steps
  all_goals first | (refine' hret _ _ _ _ ?r1 ?r2; (case r1 => k_asm); (case r2 => refine fun p hp => (by with_reducible assumption : News _ _ _ _) p ?_; (repeat (first | exact hp | apply List.Mem.tail)))) | w_report
theorem r1_121 (w : World) (x : Int) (t u : Tok) : SomeInt w 6 341 (0 ≤ x ∧ x < 4294967296) [.int 121 u, .int x t] := by
  unfold SomeInt pr
  k_fill
  intro lo mean mg mb news dp un gd cn cs a ccd cl outer A₀ base h₀ L m s Q E hpre B F X N T hk hdp hun hret
  obtain ⟨hx0, hx1⟩ := hpre
  refine wpAny_call ?_
  k_dflt cell_enter
  k_steps
  all_goals first | (refine' hret _ _ _ _ ?r1 ?r2; (case r1 => k_asm); (case r2 => refine fun p hp => (by with_reducible assumption : News _ _ _ _) p ?_; (repeat (first | exact hp | apply List.Mem.tail)))) | w_report
theorem r1_122 (w : World) (x : Int) (t u : Tok) : SomeInt w 6 341 (0 ≤ x ∧ x < 4294967296) [.int 122 u, .int x t] := by
  unfold SomeInt pr
  k_fill
  intro lo mean mg mb news dp un gd cn cs a ccd cl outer A₀ base h₀ L m s Q E hpre B F X N T hk hdp hun hret
  obtain ⟨hx0, hx1⟩ := hpre
  refine wpAny_call ?_
  k_dflt cell_enter
  k_steps
  all_goals first | (refine' hret _ _ _ _ ?r1 ?r2; (case r1 => k_asm); (case r2 => refine fun p hp => (by with_reducible assumption : News _ _ _ _) p ?_; (repeat (first | exact hp | apply List.Mem.tail)))) | w_report
theorem r1_123 (w : World) (x : Int) (t u : Tok) : SomeInt w 6 341 (0 ≤ x ∧ x < 4294967296) [.int 123 u, .int x t] := by
  unfold SomeInt pr
  k_fill
  intro lo mean mg mb news dp un gd cn cs a ccd cl outer A₀ base h₀ L m s Q E hpre B F X N T hk hdp hun hret
  obtain ⟨hx0, hx1⟩ := hpre
  refine wpAny_call ?_
  k_dflt cell_enter
  k_steps
  all_goals first | (refine' hret _ _ _ _ ?r1 ?r2; (case r1 => k_asm); (case r2 => refine fun p hp => (by with_reducible assumption : News _ _ _ _) p ?_; (repeat (first | exact hp | apply List.Mem.tail)))) | w_report
theorem r1_167 (w : World) (x : Int) (t u : Tok) : SomeInt w 6 341 (0 ≤ x ∧ x < 4294967296) [.int 167 u, .int x t] := by
  unfold SomeInt pr
  k_fill
  intro lo mean mg mb news dp un gd cn cs a ccd cl outer A₀ base h₀ L m s Q E hpre B F X N T hk hdp hun hret
  obtain ⟨hx0, hx1⟩ := hpre
  refine wpAny_call ?_
  k_dflt cell_enter
  k_steps
  all_goals first | (refine' hret _ _ _ _ ?r1 ?r2; (case r1 => k_asm); (case r2 => refine fun p hp => (by with_reducible assumption : News _ _ _ _) p ?_; (repeat (first | exact hp | apply List.Mem.tail)))) | w_report
theorem r1_173 (w : World) (x : Int) (t u : Tok) : SomeInt w 6 341 (0 ≤ x ∧ x < 4294967296) [.int 173 u, .int x t] := by
  unfold SomeInt pr
  k_fill
  intro lo mean mg mb news dp un gd cn cs a ccd cl outer A₀ base h₀ L m s Q E hpre B F X N T hk hdp hun hret
  obtain ⟨hx0, hx1⟩ := hpre
  refine wpAny_call ?_
  k_dflt cell_enter
  k_steps
  all_goals first | (refine' hret _ _ _ _ ?r1 ?r2; (case r1 => k_asm); (case r2 => refine fun p hp => (by with_reducible assumption : News _ _ _ _) p ?_; (repeat (first | exact hp | apply List.Mem.tail)))) | w_report
theorem r1_172 (w : World) (x : Int) (t u : Tok) : SomeInt w 6 341 (0 ≤ x ∧ x < 4294967296) [.int 172 u, .int x t] := fun lo mean mg mb news dp un gd cn cs a ccd cl outer A₀ base h₀ L m s Q E hx => r1_nar w 172 x t u lo mean mg mb news dp un gd cn cs a ccd cl outer A₀ base h₀ L m s Q E ⟨hx, by decide⟩
theorem r1_192 (w : World) (x : Int) (t u : Tok) : SomeInt w 6 341 (0 ≤ x ∧ x < 4294967296) [.int 192 u, .int x t] := fun lo mean mg mb news dp un gd cn cs a ccd cl outer A₀ base h₀ L m s Q E hx => r1_nar w 192 x t u lo mean mg mb news dp un gd cn cs a ccd cl outer A₀ base h₀ L m s Q E ⟨hx, by decide⟩
theorem r1_193 (w : World) (x : Int) (t u : Tok) : SomeInt w 6 341 (0 ≤ x ∧ x < 4294967296) [.int 193 u, .int x t] := fun lo mean mg mb news dp un gd cn cs a ccd cl outer A₀ base h₀ L m s Q E hx => r1_nar w 193 x t u lo mean mg mb news dp un gd cn cs a ccd cl outer A₀ base h₀ L m s Q E ⟨hx, by decide⟩
theorem r1_194 (w : World) (x : Int) (t u : Tok) : SomeInt w 6 341 (0 ≤ x ∧ x < 4294967296) [.int 194 u, .int x t] := fun lo mean mg mb news dp un gd cn cs a ccd cl outer A₀ base h₀ L m s Q E hx => r1_nar w 194 x t u lo mean mg mb news dp un gd cn cs a ccd cl outer A₀ base h₀ L m s Q E ⟨hx, by decide⟩
theorem r1_195 (w : World) (x : Int) (t u : Tok) : SomeInt w 6 341 (0 ≤ x ∧ x < 4294967296) [.int 195 u, .int x t] := fun lo mean mg mb news dp un gd cn cs a ccd cl outer A₀ base h₀ L m s Q E hx => r1_nar w 195 x t u lo mean mg mb news dp un gd cn cs a ccd cl outer A₀ base h₀ L m s Q E ⟨hx, by decide⟩
theorem r1_196 (w : World) (x : Int) (t u : Tok) : SomeInt w 6 341 (0 ≤ x ∧ x < 4294967296) [.int 196 u, .int x t] := fun lo mean mg mb news dp un gd cn cs a ccd cl outer A₀ base h₀ L m s Q E hx => r1_nar w 196 x t u lo mean mg mb news dp un gd cn cs a ccd cl outer A₀ base h₀ L m s Q E ⟨hx, by decide⟩
end
section
/-- an exception object as its __new__ leaves it -/
abbrev excOf (C T : Addr) (od : Option Addr) : Obj := { cls := .ref C, dict := od, data := .fields #[.ref T, .none, .none, .none, .bool false, .none] }
abbrev tupOf (vs : List Value) : Obj := { cls := .type "tuple", data := .seq vs.toArray }
section
variable {prog : Program} {w : World} {A : Around} {R : Result → Shared → Prop} {h : Heap} {g : Array GenState} {d : Drawn} {t : Nat} {os : OsState}
variable {nm q : Str} {C N : Addr} {bs bm bmB : List Value} {hdct : Bool} {sn : List Str} {sub : List Value} {ab : Bool} {col : Option Bool} {dd : Option Addr} {k0 k1 k2 k3 k5 : Option Value} {B newId initId : String}

theorem x_check_new (F : ExcBaseFacts B newId initId bmB) (hB : bm.contains (.type B) = true) {M : Model} {E : Value → Shared → Prop} {rest : List Value} {Q : Unit → Shared → Prop} (hC : h.get? C = some (excClassObj nm q C N bs bm hdct sn sub ab col dd k0 k1 k2 k3 k5 newId))
    (hq : Q () ⟨h, g, d, t, os⟩) : wpAny M A (checkBuiltinCall newId ⟨.ref C :: rest, []⟩) Q E ⟨h, g, d, t, os⟩ := by
  have hcont : (Value.ref C :: bm).contains (.type B) = true := by rw [List.contains_cons, hB, Bool.or_true]
  have hstar := F.noStar
  simp only [checkBuiltinCall, F.newKind, F.newSplit, F.newRow]
  repeat (first | refine wpAny_loadPart_at hC ?_ | (refine wpAny_isSubtype_exc hC ?_; rw [hcont]) | refine wpAny_staticBase_exc hC ?_ | refine wpAny_madeBy_exc hC ?_ | simp only [bne_self_eq_false, Bool.false_eq_true, if_false] | wp_step)
  exact hq

theorem x_new (F : ExcBaseFacts B newId initId bmB) (hB : bm.contains (.type B) = true) (hA : bm.contains (.type "AttributeError") = false) (hN : bm.contains (.type "NameError") = false) {rest : List Value}
    (hC : h.get? C = some (excClassObj nm q C N bs bm hdct sn sub ab col dd k0 k1 k2 k3 k5 newId))
    (hq : R (.ok (.ret (.ref (h.objs.size + 1)))) ⟨(h.push (tupOf rest)).push (excOf C h.objs.size none), g, d, t, os⟩) (hrest : rest.length ≤ sizeLine) :
    codeAny (model prog w) A (.builtin newId ⟨.ref C :: rest, []⟩) R ⟨h, g, d, t, os⟩ := by
  have hends := F.ends
  have hcB : (Value.ref C :: bm).contains (.type B) = true := by rw [List.contains_cons, hB, Bool.or_true]
  have hcA : (Value.ref C :: bm).contains (.type "AttributeError") = false := by rw [List.contains_cons, hA]; rfl
  have hcN : (Value.ref C :: bm).contains (.type "NameError") = false := by rw [List.contains_cons, hN]; rfl
  refine codeAny_builtinAt F.entry ?_
  unfold Builtin.«BaseException.__new__»
  refine PySem.wpAt_bind ?_
  show PySem.wpAt _ _ _ (stack >>= _) _ _ _
  refine PySem.wpAt_bind (PySem.wpAt_stack fun p below => PySem.wpAt_of_wpAny ?_)
  wp_walk
  refine PySem.wpAt_of_wpAny ?_
  rw [F.owner]
  repeat (first | with_reducible refine wpAny_madeHere_exc F.canon hC ?_ | with_reducible refine wpAny_loadPart_at hC ?_ | (with_reducible refine wpAny_isSubtype_exc hC ?_; first | rw [hcB] | rw [hcA] | rw [hcN]) | wp_step)
  show R _ _
  rw [Heap.size_push]
  exact hq

theorem x_make (F : ExcBaseFacts B newId initId bmB) (hB : bm.contains (.type B) = true) (hA : bm.contains (.type "AttributeError") = false) (hN : bm.contains (.type "NameError") = false) {rest : List Value} {init : Value}
    (hC : h.get? C = some (excClassObj nm q C N bs bm hdct sn sub ab col dd k0 k1 k2 k3 k5 newId))
    (hi : Looks (model prog w) h (typeLookup (.ref C) "__init__") (some init)) (hb : ∀ self, Looks (model prog w) h (bindSpecial init self) (init, [self]))
    (call : Looks (model prog w) h (specialOf (.ref C) "__call__") (some (.builtin "type.__call__"))) (typ : Looks (model prog w) h (isInstance (.ref C) (.type "type")) true)
    (self : Looks (model prog w) h (isSubtype (.ref C) (.ref C)) true) (hrest : rest.length ≤ sizeLine)
    (hq : codeAny (model prog w) (A.under (.builtin "type.__call__" ⟨.ref C :: rest, []⟩)) (.call init ⟨.ref (h.objs.size + 1) :: rest, []⟩) (InitBack (h.objs.size + 1) R)
      ⟨(h.push (tupOf rest)).push (excOf C h.objs.size none), g, d, t, os⟩) :
    codeAny (model prog w) A (.call (.ref C) ⟨rest, []⟩) R ⟨h, g, d, t, os⟩ := by
  refine codeAny_of_tree ?_
  show wpAny _ _ (callAny (.ref C) _) _ _ _
  refine nd_load hC ?_
  show wpAny _ _ (callAny.viaDunder (.ref C) _) _ _ _
  unfold callAny.viaDunder
  refine wpAny_bind (call.at ?_)
  dsimp only
  rw [tc_bind]
  refine wpAny_bind (wpAny_pure (wpAny_bind (wpAny_pure ?_)))
  refine wpAny_pure (a := Fin.again (.call (.builtin "type.__call__") ⟨.ref C :: rest, []⟩)) (And.intro rfl ?_)
  refine codeAny_call_builtin_at (Code.quiet_builtin _ (by decide +kernel)) entry_typeCall (check_slot tc_kind tc_split typ (tc_args _ _ _) ?_)
  unfold Builtin.«type.__call__»
  repeat (first | with_reducible refine wpAny_loadPart_at hC ?_ | with_reducible refine wpAny_madeBy_exc hC ?_ | with_reducible refine wpAny_mroOf_exc hC ?_ | wp_step)
  refine codeAny_call_builtin_code (Code.quiet_builtin _ F.quiet) (x_check_new F hB hC ?_)
  refine x_new F hB hA hN hC ?_ hrest
  have k : ∀ b o, h.get? b = some o → ((h.push (tupOf rest)).push (excOf C h.objs.size none)).get? b = some o := fun b o e => Heap.get?_push_of_some _ (Heap.get?_push_of_some _ e)
  have hx : ((h.push (tupOf rest)).push (excOf C h.objs.size none)).get? (h.objs.size + 1) = some (excOf C h.objs.size none) := by heap_get
  have t1 : Looks (model prog w) ((h.push (tupOf rest)).push (excOf C h.objs.size none)) (typeOf (.ref (h.objs.size + 1))) (.ref C) := (Looks.ld hx).andThen .now
  have s1 := self.keeps k
  have i1 := hi.keeps k
  have b1 := (hb (.ref (h.objs.size + 1))).keeps k
  show wpAny _ _ _ _ _ _
  unfold isInstance callSpecial? specialOf
  repeat (first | with_reducible refine wpAny_call ?_ | lk)
  refine codeAny_mono hq fun r s' z => ?_
  rcases r with e | (v | _ | _ | _) <;> first | exact z | exact z.elim | skip
  obtain ⟨rfl, z⟩ := z
  exact wpAny_pure (wpAny_pure z)
end
end
section
section
variable {prog : Program} {w : World} {A : Around} {E : Value → Shared → Prop} {s : Shared} {K : Frag} {L : Addr} {h₀ : Heap} {m : Str → Option Value} {news : List (Addr × Obj)} {Q : Value → Shared → Prop}
variable {nm q : Str} {C N : Addr} {bs bm bmB : List Value} {hdct : Bool} {sn : List Str} {sub : List Value} {ab : Bool} {col : Option Bool} {dd : Option Addr} {k0 k1 k2 k3 k5 : Option Value} {B newId initId : String}
theorem x_call {vs : List Value} {fI : Addr} (FB : ExcBaseFacts B newId initId bmB) (F : Fr h₀ L s.heap m) (X₀ : K.In h₀) (Nw : News h₀ L s.heap news)
    (hC : K.lookup C = some (excClassObj nm q C N bs bm hdct sn sub ab col dd k0 k1 k2 k3 k5 newId))
    (hi : findIn K (.ref C) "__init__" = some (some (.ref fI))) (hf : typeIn K (.ref fI) = some (.type "function")) (hcall : specialIn K (.ref C) "__call__" = some (some (.builtin "type.__call__"))) (ht : instIn K (.ref C) (.type "type") = some true)
    (hs : subIn K (.ref C) (.ref C) = some true) (hB : bm.contains (.type B) = true) (hA : bm.contains (.type "AttributeError") = false) (hN : bm.contains (.type "NameError") = false) (hv : vs.length ≤ sizeLine)
    (h : ∀ e T h', Fr h₀ L h' m → News h₀ L h' ((e, excOf C T none) :: (T, tupOf vs) :: news) → (∀ p ∈ news, p.1 < T) → T < e →
      codeAny (model prog w) (A.under (.builtin "type.__call__" ⟨.ref C :: vs, []⟩)) (.call (.ref fI) ⟨.ref e :: vs, []⟩) (InitBack e fun r s' => match r with | .ok (.ret v) => Q v s' | .ok _ => False | .error e => E e s') { s with heap := h' }) :
    wpAny (model prog w) A (call (.ref C) vs) Q E s := by
  have X := X₀.keeps F.keep
  obtain ⟨hh, g, d, t, os⟩ := s
  refine wpAny_call (x_make FB hB hA hN (X _ _ hC) (looks_findIn X hi) (fun self => bind_fn X self hf) (looks_specialIn X hcall) (looks_instIn X ht) (looks_subIn X hs) hv
    (h _ hh.objs.size _ ((F.push _).push _) ?_ (fun p hp => Heap.lt_size (Nw p hp).1) (Nat.lt_succ_self _)))
  have := (Nw.push F (tupOf vs)).push (F.push _) (excOf C hh.objs.size none)
  rwa [Heap.size_push] at this
end
end
section
open Builtin Builtin.ObjectAttr Builtin.Getset_descriptor
section
variable {prog : Program} {w : World} {A : Around} {E : Value → Shared → Prop} {s : Shared} {K : Frag} {L C T e : Addr} {h₀ : Heap} {m : Str → Option Value} {rest : List (Addr × Obj)}
variable {nm q : Str} {Nn : Addr} {bs bm : List Value} {hdct : Bool} {sn : List Str} {sub : List Value} {ab : Bool} {col : Option Bool} {dd : Option Addr} {k0 k1 k2 k3 k5 : Option Value} {newId : String}
/-- BaseException.__init__ on an object of the text's own class: the args anew -/
theorem x_init {Q : Value → Shared → Prop} {vs : List Value} {od : Option Addr} (F : Fr h₀ L s.heap m) (X₀ : K.In h₀) (N : News h₀ L s.heap ((e, excOf C T od) :: rest)) (hne : ∀ p ∈ rest, p.1 ≠ e)
    (hCl : K.lookup C = some (excClassObj nm q C Nn bs bm hdct sn sub ab col dd k0 k1 k2 k3 k5 newId)) (hB : bm.contains (.type "Exception") = true) (hv : vs.length ≤ sizeLine)
    (h : ∀ T' h', Fr h₀ L h' m → News h₀ L h' ((T', tupOf vs) :: (e, excOf C T' od) :: rest) → (∀ p ∈ ((e, excOf C T od) :: rest : List (Addr × Obj)), p.1 < T') → Q .none { s with heap := h' }) :
    wpAny (model prog w) A (call (.builtin "Exception.__init__") (.ref e :: vs)) Q E s := by
  have FB := PySem.F.excBase_Exception
  have X := X₀.keeps F.keep
  have he := (N _ (.head _)).1
  have ty : Looks (model prog w) s.heap (typeOf (.ref e)) (.ref C) := (Looks.ld he).andThen .now
  have F1 := F.push (tupOf vs)
  have N1 := N.push F (tupOf vs)
  have hlt : ∀ p ∈ ((e, excOf C T od) :: rest : List (Addr × Obj)), p.1 < s.heap.objs.size := fun p hp => Heap.lt_size (N p hp).1
  obtain ⟨U1, U2⟩ := news_upd (pre := [(s.heap.objs.size, tupOf vs)]) (d := e) (o := excOf C T od) (o' := excOf C s.heap.objs.size od) (f := Obj.mapFields (·.setIfInBounds 0 (Value.ref s.heap.objs.size))) F1 N1
    (fun p hp => by rw [List.mem_singleton.mp hp]; exact Ne.symm (Nat.ne_of_lt (hlt _ (.head _)))) hne rfl rfl
  have he1 := (N1 (e, excOf C T od) (.tail _ (.head _))).1
  have fin := h _ _ U1 U2 hlt
  refine wpAny_call (codeAny_call_builtin FB.init.plain FB.initEntry ?_)
  have hC := X _ _ hCl
  have hcB : (Value.ref C :: bm).contains (.type "Exception") = true := by rw [List.contains_cons, hB, Bool.or_true]
  have hshort := FB.noStar
  obtain ⟨hh, g, d, t, os⟩ := s
  simp only [checkBuiltinCall, FB.initKind, FB.initSplit, FB.initRow]
  repeat (first | with_reducible refine wpAny_loadPart_at he ?_ | with_reducible refine wpAny_loadPart_at hC ?_ | (with_reducible refine wpAny_isSubtype_exc hC ?_; rw [hcB]) | wp_step)
  refine wpAny_onRaise ?_
  rw [show ∀ (a b : String) (n : Nat), Bind.check ⟨.positional, "*", "Exception", .self, [⟨"args", .varPos, false⟩]⟩ a b n (List.map (fun x => x.fst) ({ pos := Value.ref e :: vs } : Args).kw) = pure () from
    fun a b n => check_star_args _ _ _ _ _ _]
  refine wpAny_pure ?_
  unfold Builtin.«BaseException.__init__»
  repeat (first | with_reducible refine wpAny_loadPart_at he1 ?_ | wp_step)
  exact fin
theorem x_setattr {Q : Unit → Shared → Prop} {name : Str} {v : Value} (F : Fr h₀ L s.heap m) (X₀ : K.In h₀) (N : News h₀ L s.heap ((e, excOf C T none) :: rest)) (hne : ∀ p ∈ rest, p.1 ≠ e)
    (hset : findIn K (.ref C) "__setattr__" = some (some (.builtin "object.__setattr__"))) (hno : findIn K (.ref C) name = some none) (hobj : subIn K (.ref C) (.type "object") = some true)
    (hCl : K.lookup C = some (excClassObj nm q C Nn bs bm true sn sub ab col dd k0 k1 k2 k3 k5 newId)) (hm : ∃ tl, bm = tl ++ [.type "Exception", .type "BaseException", .type "object"] ∧ ∀ c ∈ tl, ∃ a, c = Value.ref a)
    (h : ∀ d tk tk' h', Fr h₀ L h' m → News h₀ L h' ((d, dictOf [⟨PyData.keyHash w.params name, .str name tk, v⟩] 1) :: (e, excOf C T (some d)) :: rest) → (∀ p ∈ ((e, excOf C T none) :: rest : List (Addr × Obj)), p.1 < d) → Q () { s with heap := h', toks := tk' }) :
    wpAny (model prog w) A (setAttr (.ref e) name v) Q E s := by
  have SF := PySem.F.store_object
  have X := X₀.keeps F.keep
  have he := (N _ (.head _)).1
  have I : InstAt s.heap e (excOf C T none) C none := ⟨he, rfl, rfl, trivial⟩
  obtain ⟨tl0, hbm, htl0⟩ := hm
  obtain ⟨cd, tl, hc, hd', hmro, htl⟩ : ∃ cd tl, clsIn K C = some cd ∧ cd.hasDict = true ∧ cd.mro = tl ++ [.type "Exception", .type "BaseException", .type "object"] ∧ ∀ c ∈ tl, ∃ a, c = Value.ref a := by
    refine ⟨_, .ref C :: tl0, by unfold clsIn; rw [hCl], rfl, by rw [hbm]; rfl, fun c hc => ?_⟩
    rcases List.mem_cons.mp hc with rfl | hc
    · exact ⟨C, rfl⟩
    · exact htl0 c hc
  have hpass : ∀ self : Value, refuseLoop self "__setattr__" cd.mro = pure () := by
    intro self
    rw [hmro]
    clear hmro hc
    induction tl with
    | nil => exact PySem.F.store_Exception.passes self
    | cons c r ih =>
      obtain ⟨a, rfl⟩ := htl c (.head _)
      rw [List.cons_append, refuseLoop_ref]
      exact ih fun c hc => htl c (.tail _ hc)
  have hlt : ∀ p ∈ ((e, excOf C T none) :: rest : List (Addr × Obj)), p.1 < s.heap.objs.size := fun p hp => Heap.lt_size (N p hp).1
  have F1 := F.push emptyDict
  have N1 := N.push F emptyDict
  obtain ⟨U1, U2⟩ := news_upd (pre := [(s.heap.objs.size, emptyDict)]) (d := e) (o := excOf C T none) (o' := excOf C T (some s.heap.objs.size)) (f := fun o => { o with dict := some s.heap.objs.size }) F1 N1
    (fun p hp => by rw [List.mem_singleton.mp hp]; exact Ne.symm (Nat.ne_of_lt (hlt _ (.head _)))) hne rfl rfl
  have he1 := (N1 (e, excOf C T none) (.tail _ (.head _))).1
  have hD := (U2 (s.heap.objs.size, emptyDict) (.head _)).1
  obtain ⟨V1, V2⟩ := news_upd (pre := []) (d := s.heap.objs.size) (o := emptyDict) (o' := dictOf [⟨PyData.keyHash w.params name, .str name (s.toks + 1), v⟩] 1) (f := Obj.putName name (PyData.keyHash w.params name) (.str name (s.toks + 1)) v) U1 U2
    (fun p hp => nomatch hp) (fun p hp => by
      rcases List.mem_cons.mp hp with rfl | hp
      · exact Nat.ne_of_lt (show e < s.heap.objs.size from hlt (e, excOf C T none) (.head _))
      · exact Nat.ne_of_lt (hlt _ (.tail _ hp))) rfl rfl
  have hD' := (V2 (s.heap.objs.size, _) (.head _)).1
  have fin := h _ _ (s.toks + 1 + 1) _ V1 V2 hlt
  have L1 : Looks (model prog w) s.heap (mroOf (.ref C)) cd.mro := (looks_clsIn X hc).andThen .now
  have sub : Looks (model prog w) s.heap (isInstance (.ref e) (.type "object")) true := I.type.andThen (looks_subIn X hobj)
  refine set_plain X I hset ?_
  refine codeAny_call_builtin SF.slot.plain SF.entry (@check_slot (model prog w) _ _ { s with toks := s.toks + 1 } "object.__setattr__" "object" "__setattr__" (.ref e) [.str name s.toks, v] [] _ SF.kind SF.split sub (SF.args (.ref e) (.str name s.toks) v) ?_)
  rw [osa_eq, refuse_eq]
  refine wpAny_bind (wpAny_bind (Looks.here (s := { s with toks := s.toks + 1 }) I.type (wpAny_bind (Looks.here (s := { s with toks := s.toks + 1 }) L1 ?_))))
  rw [hpass]
  refine wpAny_pure (wpAny_bind (Looks.here (s := { s with toks := s.toks + 1 }) I.type (wpAny_bind (Looks.here (s := { s with toks := s.toks + 1 }) (looks_findIn X hno) (wpAny_bind (wpAny_pure ?_))))))
  dsimp only
  refine wpAny_bind (wpAny_pure (wpAny_bind (wpAny_bind (wpAny_loadPart (s := { s with toks := s.toks + 1 }) he (wpAny_bind (Looks.here (s := { s with toks := s.toks + 1 }) (looks_clsIn X hc) ?_))))))
  rw [hd']
  refine wpAny_bind (wpAny_alloc (wpAny_bind (wpAny_update he1 ?_)))
  refine wpAny_pure (a := some s.heap.objs.size) (wpAny_bind (wpAny_pure (wpAny_bind ?_)))
  unfold nsSet
  refine wpAny_bind (wpAny_bind (wpAny_askSetting (wpAny_pure (wpAny_bind (wpAny_mkText (wpAny_bind (wpAny_loadPart hD ?_)))))))
  dsimp only
  rw [aRefKeyMayBeTheName_at, show (!(#[] : Array DictEntry).any (·.key.isStr name) && (#[] : Array DictEntry).any (·.refKey)) = false from by simp]
  refine wpAny_updatePart hD ?_
  refine wpAny_bind (wpAny_lookBehind hD' (pastItsLine_dict (by show 1 ≤ sizeLine + 1; decide)) ?_)
  exact wpAny_pure fin
end
end
section
open Builtin Builtin.ObjectAttr Builtin.Getset_descriptor
section
variable {prog : Program} {w : World} {A : Around} {E : Value → Shared → Prop} {s : Shared} {K : Frag} {C e : Addr}
theorem bga_kind : builtinKind "BaseException.__getattribute__" = some .slot := by decide +kernel
theorem bga_split : splitId "BaseException.__getattribute__" = some ("BaseException", "__getattribute__") := by decide +kernel
theorem x_getattr {ox : Obj} {od : Option Obj} {name : Str} {v : Value} {expr : Bool} {Q : Value → Shared → Prop} (X : K.In s.heap) (I : InstAt s.heap e ox C od)
    (hga : findIn K (.ref C) "__getattribute__" = some (some (.builtin "BaseException.__getattribute__"))) (hhook : findIn K (.ref C) "__getattr__" = some none)
    (hf : findObj K C od name = some (.value v)) (hbase : subIn K (.ref C) (.type "BaseException") = some true) (hh : handedIn v = true) (hq : Q v { s with toks := s.toks + 1 }) :
    wpAny (model prog w) A (getAttr (.ref e) name expr) Q E s := by
  have FB := PySem.F.attr_Exception
  obtain ⟨hp, g, d, t, os⟩ := s
  have L0 := I.type (M := model prog w)
  have L1 := looks_findIn (M := model prog w) X hga
  have L2 := looks_findIn (M := model prog w) X hhook
  have L3 := looks_find (M := model prog w) X I hf
  have L4 : Looks (model prog w) hp (isInstance (.ref e) (.type "BaseException")) true := L0.andThen (looks_subIn X hbase)
  have hx2 : (Value.builtin "BaseException.__getattribute__" == Value.builtin "object.__getattribute__") = false := by decide +kernel
  have hx1 : (onTheHeap (Value.ref C) && Value.builtin "BaseException.__getattribute__" == Value.builtin "object.__getattribute__") = false := by rw [hx2]; rfl
  have hx0 : (expr && onTheHeap (Value.builtin "BaseException.__getattribute__")) = false := by cases expr <;> rfl
  unfold getAttr
  refine wpAny_bind (wpAny_mkText ?_)
  unfold getAttrBy
  refine wpAny_holding (wpAny_bind (L0.at (wpAny_bind (L1.at ?_))))
  dsimp only
  rw [hx1]
  simp only [Bool.false_eq_true, if_false]
  unfold getAttrByItsOwn
  show wpAny _ _ (typeLookup (.ref C) "__getattr__" >>= _) _ _ _
  refine wpAny_bind (L2.at ?_)
  refine wpAny_bind (wpAny_attempt (wpAny_holding ?_))
  unfold callGetattribute
  rw [hx0]
  simp only [Bool.false_eq_true, if_false]
  unfold boundAndCalled
  rw [FB.ga.bind]
  refine wpAny_bind (wpAny_pure ?_)
  show wpAny _ _ (call (.builtin "BaseException.__getattribute__") [.ref e, .str name t]) _ _ _
  refine wpAny_call ?_
  refine codeAny_call_builtin FB.ga.plain PySem.F.entry_bexc_ga ?_
  refine @check_slot (model prog w) _ _ ⟨hp, g, d, t + 1, os⟩ "BaseException.__getattribute__" "BaseException" "__getattribute__" (.ref e) [.str name t] [] _ bga_kind bga_split L4 (PySem.F.args_bexc_ga _ _) ?_
  unfold Builtin.«object.__getattribute__»
  refine wpAny_bind (wpAny_pure (wpAny_bind (wpAny_pure (wpAny_bind (L0.at (wpAny_bind (L3.at ?_)))))))
  refine wpAny_pure ?_
  show wpAny _ _ (handedOut v) _ _ _
  rw [handedOut_of hh]; exact wpAny_pure hq
end
end
section
theorem dict_mapFields (f : Array Value → Array Value) (o : Obj) : (Obj.mapFields f o).dict = o.dict := by
  obtain ⟨c, d, dt, sl⟩ := o
  cases dt <;> rfl
/-- the exception e as it flies: its class, its dict, its newest traceback's mark -/
def TrD (h B : Heap) (e : Addr) (cls : Value) (od : Option Addr) (fl : Value) : Prop :=
  ∃ oe vs T oT ts, h.get? e = some oe ∧ oe.cls = cls ∧ oe.dict = od ∧ oe.data = .fields vs ∧ vs[1]? = some (.ref T) ∧ B.get? T = none ∧ T ≠ e ∧ h.get? T = some oT ∧ oT.data = .fields ts ∧ ts[3]? = some fl
def FlyD (B : Heap) (l : List Env) (e : Addr) (cls : Value) (od : Option Addr) (fl : Value) (h : Heap) : Prop :=
  B.StaysIn h ∧ B.get? e = none ∧ h.FunFrames B l ∧ TrD h B e cls od fl
section
variable {M : Model} {A : Around} {E : Value → Shared → Prop} {s : Shared} {B : Heap} {env : Env} {outer : List Env} {L e : Addr} {cls : Value} {od : Option Addr} {Q : Unit → Shared → Prop}
theorem FlyD.obj {l : List Env} {fl : Value} {h : Heap} (x : FlyD B l e cls od fl h) : ∃ oe vs, h.get? e = some oe ∧ oe.cls = cls ∧ oe.dict = od ∧ oe.data = .fields vs := by
  obtain ⟨_, _, _, oe, vs, _, _, _, h1, h2, h3, h4, _⟩ := x
  exact ⟨oe, vs, h1, h2, h3, h4⟩
theorem d_entry {oe : Obj} {vs : Array Value} {head : Value} {hadNext : Bool} (hfr : A.frames = some (env :: outer)) (hl : s.heap.FunFrames B (env :: outer)) (hf : env.frame = some L)
    (he : s.heap.get? e = some oe) (hkb : B.StaysIn s.heap) (hen : B.get? e = none) (hd : oe.data = .fields vs) (hsz : 1 < vs.size)
    (h : ∀ h', FlyD B (env :: outer) e oe.cls oe.dict (rawInt L) h' → s.heap.UpToSlots h' → Q () { s with heap := h' }) :
    wpAny M A (do let a ← frameOf env; let pl ← entryPlaceOf L hadNext; let b ← EntryCells.newEntry head a .none (rawInt L) .none pl; setField (.ref e) 1 b) Q E s := by
  have notRec : ∀ b o, s.heap.get? b = some o → (∀ vs, o.data ≠ .fields vs) → b ≠ e := fun b o hb hn q => by
    subst q
    rw [he] at hb
    cases hb
    exact hn vs hd
  have noFr : e ∉ (env :: outer).filterMap (·.frame) := fun hm => by
    obtain ⟨_, o, ho, hn⟩ := hl.mem hm
    exact notRec _ _ ho hn rfl
  refine wpAny_bind (wpAny_frameOf_fun hfr hl hf fun h₁ S => wpAny_bind (wpAny_entryPlaceOf fun pl hpl => ?_))
  unfold EntryCells.newEntry newFields
  refine wpAny_bind (wpAny_newObj_type ?_ (hpl.sizeOk5 _ _ _ _ _))
  have e1 : h₁.get? e = some oe := (S.2.1 e noFr).trans he
  have stay1 : B.StaysIn h₁ := fun b o hb => (S.2.1 b fun hm => by have := (hl.mem hm).1; rw [hb] at this; cases this).trans (hkb b o hb)
  generalize hO : ({ cls := .type "traceback", dict := none, data := .fields ([head, .ref L, .none, rawInt L, .none] ++ (if pl.isEmpty then List.replicate 6 Value.none else pl)).toArray } : Obj) = O
  have OF : O.isFreed = false := by rw [← hO]; rfl
  have Oc : O.data = .fields ([head, .ref L, .none, rawInt L, .none] ++ (if pl.isEmpty then List.replicate 6 Value.none else pl)).toArray := by rw [← hO]
  have e2 : (h₁.push O).get? e = some oe := Heap.get?_push_of_some O e1
  have lt : ∀ {b o}, h₁.get? b = some o → h₁.objs.size ≠ b := fun hb => Nat.ne_of_gt (Heap.lt_size hb)
  have new : (h₁.push O).get? h₁.objs.size = some O := Heap.get?_push_size h₁ OF
  obtain ⟨h₂, hU⟩ : ∃ h₂, (h₁.push O).update e (Obj.mapFields (·.setIfInBounds 1 (Value.ref h₁.objs.size))) = h₂ := ⟨_, rfl⟩
  have keep : ∀ b o, b ≠ e → h₁.get? b = some o → h₂.get? b = some o := fun b o hb hg => by
    rw [← hU, Heap.get?_update_other _ _ (Ne.symm hb)]
    exact Heap.get?_push_of_some O hg
  refine wpAny_setField e2 hd hsz ?_
  show Q () { s with heap := (h₁.push O).update e (Obj.mapFields (·.setIfInBounds 1 (Value.ref h₁.objs.size))) }
  rw [hU]
  refine h h₂ ?_ ?_
  · have d3 := Obj.data_mapFields hd (·.setIfInBounds 1 (Value.ref h₁.objs.size))
    have e3 : h₂.get? e = some (Obj.mapFields (·.setIfInBounds 1 (Value.ref h₁.objs.size)) oe) := by
      rw [← hU]
      exact Heap.get?_update_self _ e2 (Obj.isFreed_of_fields d3)
    have T3 : h₂.get? h₁.objs.size = some O := by
      rw [← hU, Heap.get?_update_other _ _ (Ne.symm (lt e1))]
      exact new
    refine ⟨fun b o hb => keep b o (fun q => by rw [q, hen] at hb; cases hb) (stay1 b o hb), hen, hl.of_keeps fun b o hb hn => ?_, _, _, h₁.objs.size, _, _, e3, Obj.cls_mapFields _ _, dict_mapFields _ _, d3, by simp [hsz], stay1.fresh, lt e1, T3, Oc, ?_⟩
    · obtain ⟨sl, hs⟩ := S.2.2 b o hb
      exact ⟨_, keep b _ (notRec b o hb hn) hs, rfl⟩
    · rcases hpl with rfl | ⟨_, _, _, _, _, _, _, rfl⟩ <;> simp
  · intro b o hb hn
    obtain ⟨sl, hs⟩ := S.2.2 b o hb
    exact ⟨sl, keep b _ (notRec b o hb hn) hs⟩
theorem d_first {oe : Obj} {vs : Array Value} (hfr : A.frames = some (env :: outer)) (hl : s.heap.FunFrames B (env :: outer)) (hf : env.frame = some L)
    (he : s.heap.get? e = some oe) (hkb : B.StaysIn s.heap) (hen : B.get? e = none) (hd : oe.data = .fields vs) (h1 : vs[1]? = some .none)
    (h : ∀ h', FlyD B (env :: outer) e oe.cls oe.dict (rawInt L) h' → s.heap.UpToSlots h' → Q () { s with heap := h' }) : wpAny M A (noteFrame (.ref e) env) Q E s := by
  unfold noteFrame
  simp only [hf]
  refine wpAny_bind (wpAny_field he hd h1 ?_)
  rw [if_neg (by decide)]
  exact d_entry hfr hl hf he hkb hen hd (Array.getElem?_eq_some_iff.mp h1).1 h
theorem d_next (hfr : A.frames = some (env :: outer)) (hf : env.frame = some L) (x : FlyD B (env :: outer) e cls od .none s.heap)
    (h : ∀ h', FlyD B (env :: outer) e cls od (rawInt L) h' → s.heap.UpToSlots h' → Q () { s with heap := h' }) : wpAny M A (noteFrame (.ref e) env) Q E s := by
  obtain ⟨hkb, hen, hl, oe, vs, T, oT, ts, he, hc, ho, hd, h1, hT, hTe, gT, dT, t3⟩ := x
  subst hc ho
  unfold noteFrame
  simp only [hf]
  refine wpAny_bind (wpAny_field he hd h1 ?_)
  rw [if_pos (show (Value.ref T != Value.none) = true from by simp)]
  refine wpAny_bind (wpAny_field gT dT t3 ?_)
  rw [if_neg (show ¬ ((Value.none == rawInt L) = true) from by simp [rawInt])]
  refine wpAny_bind (wpAny_setField gT dT (Array.getElem?_eq_some_iff.mp t3).1 ?_)
  have oth : ∀ b, b ≠ T → (s.heap.update T (Obj.mapFields (·.setIfInBounds 3 Value.none))).get? b = s.heap.get? b := fun b hb => Heap.get?_update_other _ _ (Ne.symm hb)
  have nr : ∀ b o, s.heap.get? b = some o → (∀ vs, o.data ≠ .fields vs) → b ≠ T := fun b o hb hn q => by
    subst q
    rw [gT] at hb
    cases hb
    exact hn ts dT
  exact d_entry hfr (hl.of_keeps fun b o hb hn => ⟨o, (oth b (nr b o hb hn)).trans hb, rfl⟩) hf ((oth e (Ne.symm hTe)).trans he)
    (fun b o hb => (oth b fun q => by rw [q, hT] at hb; cases hb).trans (hkb b o hb)) hen hd (Array.getElem?_eq_some_iff.mp h1).1
    fun h' y1 y2 => h h' y1 fun b o hb hn => y2 b o ((oth b (nr b o hb hn)).trans hb) hn
theorem d_again {l : List Env} (hf : env.frame = some L) (x : FlyD B l e cls od (rawInt L) s.heap) (h : Q () s) : wpAny M A (noteFrame (.ref e) env) Q E s := by
  obtain ⟨hkb, hen, hl, oe, vs, T, oT, ts, he, hc, ho, hd, h1, hT, hTe, gT, dT, t3⟩ := x
  unfold noteFrame
  simp only [hf]
  refine wpAny_bind (wpAny_field he hd h1 ?_)
  rw [if_pos (show (Value.ref T != Value.none) = true from by simp)]
  refine wpAny_bind (wpAny_field gT dT t3 ?_)
  rw [if_pos (show (rawInt L == rawInt L) = true from by simp)]
  exact wpAny_pure h
theorem d_flight {l : List Env} {fl : Value} (x : FlyD B l e cls od fl s.heap) (h : ∀ h', FlyD B l e cls od .none h' → s.heap.UpToSlots h' → Q () { s with heap := h' }) :
    wpAny M A (setFlight (.ref e) none) Q E s := by
  obtain ⟨hkb, hen, hl, oe, vs, T, oT, ts, he, hc, ho, hd, h1, hT, hTe, gT, dT, t3⟩ := x
  have oth : ∀ b, b ≠ T → (s.heap.update T (Obj.mapFields (·.setIfInBounds 3 Value.none))).get? b = s.heap.get? b := fun b hb => Heap.get?_update_other _ _ (Ne.symm hb)
  have nr : ∀ b o, s.heap.get? b = some o → (∀ vs, o.data ≠ .fields vs) → b ≠ T := fun b o hb hn q => by
    subst q
    rw [gT] at hb
    cases hb
    exact hn ts dT
  have s3 : 3 < ts.size := (Array.getElem?_eq_some_iff.mp t3).1
  unfold setFlight
  refine wpAny_bind (wpAny_field he hd h1 ?_)
  rw [if_pos (show (Value.ref T != Value.none) = true from by simp)]
  refine wpAny_setField gT dT s3 (h _ ⟨fun b o hb => (oth b fun q => by rw [q, hT] at hb; cases hb).trans (hkb b o hb), hen, hl.of_keeps fun b o hb hn => ⟨o, (oth b (nr b o hb hn)).trans hb, rfl⟩, ?_⟩
    fun b o hb hn => ⟨o.slots, (oth b (nr b o hb hn)).trans hb⟩)
  exact ⟨oe, vs, T, _, _, (oth e (Ne.symm hTe)).trans he, hc, ho, hd, h1, hT, hTe, Heap.get?_update_self _ gT (Obj.isFreed_of_fields (Obj.data_mapFields dT _)), Obj.data_mapFields dT _, by simp [s3]⟩
end
end
section
/-- raised further down, now on its way through l: what stood, stands up to the frames' own slots -/
def RaisedD (base G : Heap) (l : List Env) (e C d : Addr) (news : List (Addr × Obj)) (h : Heap) : Prop :=
  ∃ B, base.StaysIn B ∧ (∀ b o, G.get? b = some o → b ∉ l.filterMap (·.frame) → B.get? b = some o) ∧ (∀ q ∈ news, B.get? q.1 = some q.2 ∧ G.get? q.1 = none ∧ base.get? q.1 = none) ∧ FlyD B l e (.ref C) (some d) .none h
theorem FlyD.keeps {B h h' : Heap} {l : List Env} {e : Addr} {cls fl : Value} {od : Option Addr} (R : FlyD B l e cls od fl h) (k : ∀ b o, h.get? b = some o → h'.get? b = some o) : FlyD B l e cls od fl h' := by
  obtain ⟨f1, f2, f3, oe, vs, T, oT, ts, he, r1, r2, r3, r4, r5, r6, hT, r7⟩ := R
  exact ⟨fun b o q => k b o (f1 b o q), f2, f3.of_keeps fun b o q _ => ⟨o, k b o q, rfl⟩, oe, vs, T, oT, ts, k _ _ he, r1, r2, r3, r4, r5, r6, k _ _ hT, r7⟩
theorem RaisedD.keeps {base G h h' : Heap} {l : List Env} {e C d : Addr} {news : List (Addr × Obj)} (R : RaisedD base G l e C d news h) (k : ∀ b o, h.get? b = some o → h'.get? b = some o) : RaisedD base G l e C d news h' := by
  obtain ⟨B, h1, h2, h3, h4⟩ := R
  exact ⟨B, h1, h2, h3, h4.keeps k⟩
theorem RaisedD.ty {M : Model} {base G h : Heap} {l : List Env} {e C d : Addr} {news : List (Addr × Obj)} (R : RaisedD base G l e C d news h) : Looks M h (typeOf (.ref e)) (.ref C) := by
  obtain ⟨B, h1, h2, h3, h4⟩ := R
  obtain ⟨oe, _, he, hc, _⟩ := h4.obj
  rw [← hc]
  exact (Looks.ld he).andThen .now
theorem RaisedD.skip {base G h : Heap} {l : List Env} {e C d : Addr} {a b : Addr × Obj} {news : List (Addr × Obj)} (R : RaisedD base G l e C d (a :: b :: news) h) : RaisedD base G l e C d (a :: news) h := by
  obtain ⟨B, h1, h2, h3, h4⟩ := R
  exact ⟨B, h1, h2, fun q hq => h3 q (by
    rcases List.mem_cons.mp hq with rfl | hq
    · exact .head _
    · exact .tail _ (.tail _ hq)), h4⟩
section
variable {M : Model} {A : Around} {E : Value → Shared → Prop} {s' : Shared} {base g g₂ : Heap} {outer : List Env} {L a e C d T : Addr} {m : Str → Option Value} {name : Str} {scope : Scope} {cd : Value} {cl : List (Str × Addr)} {Q : Unit → Shared → Prop} {news : List (Addr × Obj)}
theorem fly_tail {B h : Heap} {env : Env} {cls fl : Value} {od : Option Addr} (x : FlyD B (env :: outer) e cls od fl h) : FlyD B outer e cls od fl h := by
  obtain ⟨f1, f2, ⟨_, _, f3⟩, f4⟩ := x
  exact ⟨f1, f2, f3, f4⟩
/-- the frame that raised is left -/
theorem leave_raiseD (K : Below A base outer g) (F : Fr g L s'.heap m) (N : News g L s'.heap ((e, excOf C T (some d)) :: news)) (hne : ∀ p ∈ news, p.1 ≠ e)
    (hQ : ∀ h', RaisedD base g outer e C d news h' → g.UpToSlots h' → Q () { s' with heap := h' }) (hk : scope.kind = .function := by rfl) :
    wpAny M (A.deeper (envOf name scope L a cd)) (leaving (envOf name scope L a cd) (.ref e)) Q E s' := by
  have K' := K.push (name := name) (scope := scope) (a := a) (cd := cd) F hk
  have He := N _ (.head _)
  have fr : ∀ b, b ∈ (envOf name scope L a cd :: outer).filterMap (·.frame) → b ≠ e ∧ (∀ q ∈ news, q.1 ≠ b) := fun b hm => by
    obtain ⟨hn, o, ho, hd⟩ := K'.frames.mem hm
    refine ⟨fun q => ?_, fun q hq z => ?_⟩
    · subst q
      rw [He.1] at ho
      cases ho
      exact hd _ rfl
    · rcases kts_mem hm with y | y
      · exact (N q (.tail _ hq)).2.1 (z.trans y)
      · obtain ⟨_, o', ho', _⟩ := K.frames.mem y
        have := (N q (.tail _ hq)).2.2
        rw [z, ho'] at this
        cases this
  have hin : ∀ env ∈ (envOf name scope L a cd :: outer), ∀ b, env.frame = some b → b ∈ e :: (envOf name scope L a cd :: outer).filterMap (·.frame) := fun env he b hb => .tail _ (List.mem_filterMap.mpr ⟨env, he, hb⟩)
  have st : base.StaysIn (hideAll s'.heap (e :: (envOf name scope L a cd :: outer).filterMap (·.frame))) := fun b o q => hideAll_get _ (K'.stays b o q) fun hm => by
    rcases List.mem_cons.mp hm with z | z
    · have := fresh_of_stays K.stays He.2.2
      rw [← z, q] at this
      cases this
    · have := (K'.frames.mem z).1
      rw [q] at this
      cases this
  have sg : ∀ b o, g.get? b = some o → b ∉ outer.filterMap (·.frame) → (hideAll s'.heap (e :: (envOf name scope L a cd :: outer).filterMap (·.frame))).get? b = some o := fun b o q nm => hideAll_get _ (F.keep b o q) fun hm => by
    rcases List.mem_cons.mp hm with z | z
    · have := He.2.2
      rw [← z, q] at this
      cases this
    · rcases kts_mem z with y | y
      · rw [y, kts_self F] at q
        cases q
      · exact nm y
  have hl : ∀ q ∈ news, (hideAll s'.heap (e :: (envOf name scope L a cd :: outer).filterMap (·.frame))).get? q.1 = some q.2 ∧ g.get? q.1 = none ∧ base.get? q.1 = none := fun q hq => by
    refine ⟨hideAll_get _ (N q (.tail _ hq)).1 fun hm => ?_, (N q (.tail _ hq)).2.2, fresh_of_stays K.stays (N q (.tail _ hq)).2.2⟩
    rcases List.mem_cons.mp hm with z | z
    · exact hne q hq z
    · exact (fr _ z).2 q hq rfl
  unfold leaving
  refine wpAny_bind (d_first K'.stack (funFrames_hide K'.frames hin) rfl He.1 (fun b o q => of_hideAll _ q) (hideAll_none _ (.head _)) rfl rfl fun h1 x1 u1 => ?_)
  exact d_flight x1 fun h2 x2 u2 => hQ h2 ⟨_, st, sg, hl, fly_tail x2⟩ (((Heap.UpToSlots.of_keeps F.keep).trans u1).trans u2)
/-- a frame above it is left -/
theorem leave_onD (K : Below A base outer g) (F : Fr g L g₂ m) (R : RaisedD base g₂ (envX name scope L a cd cl :: outer) e C d news s'.heap) (hsm : g₂.UpToSlots s'.heap)
    (hQ : ∀ h', RaisedD base g outer e C d news h' → g.UpToSlots h' → Q () { s' with heap := h' }) :
    wpAny M (A.deeper (envX name scope L a cd cl)) (leaving (envX name scope L a cd cl) (.ref e)) Q E s' := by
  obtain ⟨B, hB, hBG, hl, hfl⟩ := R
  unfold leaving
  refine wpAny_bind (d_next (Around.frames_deeper K.stack) rfl hfl fun h1 x1 u1 => ?_)
  refine d_flight x1 fun h2 x2 u2 => hQ h2 ⟨B, hB, fun b o q nm => hBG b o (F.keep b o q) (fun hm => ?_), fun q hq => ⟨(hl q hq).1, kts_none F.keep (hl q hq).2.1, (hl q hq).2.2⟩, fly_tail x2⟩
    ((Heap.UpToSlots.of_keeps F.keep).trans (hsm.trans (u1.trans u2)))
  have hm' : b ∈ (envOf name scope L a cd :: outer).filterMap (·.frame) := hm
  rcases kts_mem hm' with z | z
  · rw [z, kts_self F] at q
    cases q
  · exact nm z
theorem leave_onO (K : Below A base outer g) (F : Fr g L g₂ m) (R : RaisedD base g₂ (envOf name scope L a cd :: outer) e C d news s'.heap) (hsm : g₂.UpToSlots s'.heap)
    (hQ : ∀ h', RaisedD base g outer e C d news h' → g.UpToSlots h' → Q () { s' with heap := h' }) :
    wpAny M (A.deeper (envOf name scope L a cd)) (leaving (envOf name scope L a cd) (.ref e)) Q E s' := leave_onD (cl := []) K F R hsm hQ
end
section
variable {prog : Program} {w : World} {A₀ : Around} {E : Value → Shared → Prop} {s' : Shared} {base g g₀ G : Heap} {outer : List Env} {L a e C d : Addr} {m : Str → Option Value} {name : Str} {scope : Scope} {cd : Value}
  {n : Str} {b₀ : Stmt} {suite : List Stmt} {pos : Pos} {rest hs : List ExceptHandler} {Q : Flow → Shared → Prop} {news : List (Addr × Obj)} {KF : Frag} {tt : Expr} {nm : Option Str} {body : List Stmt}
  {p : Program} {loose : List Str} {mean : ExcName → Option Value} {mg mb : Str → Option Value}
/-- it comes to a frame that catches -/
theorem look_D (R : RaisedD base G (envOf name scope L a cd :: outer) e C d news s'.heap) (K : Below A₀ base outer g) (hsm : G.UpToSlots s'.heap)
    (k : ∀ h', RaisedD base G (envOf name scope L a cd :: outer) e C d news h' → G.UpToSlots h' → wpAny (model prog w) (A₀.deeper (envOf name scope L a cd)) (handleBy (.ref e) (envOf name scope L a cd) hs) Q E { s' with heap := h' }) :
    wpAny (model prog w) (A₀.deeper (envOf name scope L a cd)) (noteFrame (.ref e) (envOf name scope L a cd))
      (fun _ s₂ => wpAny (model prog w) (A₀.deeper (envOf name scope L a cd)) (setFlight (.ref e) none) (fun _ s₃ =>
        wpAny (model prog w) (A₀.deeper (envOf name scope L a cd)) (handleBy (.ref e) (envOf name scope L a cd) hs) Q E s₃) E s₂) E s' := by
  obtain ⟨B, hB, hBG, hl, hfl⟩ := R
  refine d_next (Around.frames_deeper K.stack) rfl hfl fun h1 x1 u1 => ?_
  exact d_flight x1 fun h2 x2 u2 => k h2 ⟨B, hB, hBG, hl, x2⟩ (hsm.trans (u1.trans u2))
/-- a clause that is not its own -/
theorem pass_D (R : RaisedD base G (envOf name scope L a cd :: outer) e C d news s'.heap) (F : Fr g L G m) (K : Below A₀ base outer g) (hsm : G.UpToSlots s'.heap) (XB : KF.In base) (TB : Top p loose mean mg mb base)
    (T : KtsTest prog w KF p loose mg mb name scope L a cd (.ref C) tt false)
    (k : ∀ h', RaisedD base G (envOf name scope L a cd :: outer) e C d news h' → G.UpToSlots h' → wpAny (model prog w) (A₀.deeper (envOf name scope L a cd)) (handleBy (.ref e) (envOf name scope L a cd) rest) Q E { s' with heap := h' }) :
    wpAny (model prog w) (A₀.deeper (envOf name scope L a cd)) (handleBy (.ref e) (envOf name scope L a cd) (.ExceptHandler (some tt) nm body pos :: rest)) Q E s' := by
  have R' := R
  obtain ⟨B, hB, hBG, hl, hfl⟩ := R'
  obtain ⟨g₅, T₅, F₅, K₅⟩ := kts_ground K F hBG hfl.1 hsm
  refine wpAny_handleBy_cons (codeAny_handlers_test (T _ _ _ _ g₅ e m F₅ (XB.keeps K₅.stays) (topRead_of (TB.keeps K₅.stays)) R.ty fun h' kp => ?_)) (by intro q; cases q)
  exact k h' (R.keeps kp) (hsm.trans (Heap.UpToSlots.of_keeps kp))
/-- the clause that catches it, under a name -/
theorem hit_D (R : RaisedD base G (envOf name scope L a cd :: outer) e C d news s'.heap) (F : Fr g L G m) (K : Below A₀ base outer g) (hsm : G.UpToSlots s'.heap) (XB : KF.In base) (TB : Top p loose mean mg mb base)
    (D : KtsDicts (outer.filterMap (·.frame)) g) (T0 : KtsTurn (outer.filterMap (·.frame)) g₀ g) (T : KtsTest prog w KF p loose mg mb name scope L a cd (.ref C) tt true)
    (k : ∀ h' g' oe ws tk, oe.cls = .ref C → oe.dict = some d → oe.data = .fields ws → KtsTurn (outer.filterMap (·.frame)) g₀ g' → Fr g' L h' (fun y => if y = n then some (.ref e) else m y) → News g' L h' ((e, oe) :: news) → Below A₀ base outer g' → KF.In g' → Top p loose mean mg mb g' → KtsDicts (outer.filterMap (·.frame)) g' →
      wpAny (model prog w) ((A₀.deeper (envOf name scope L a cd)).mark (some (.ref e))) (execs (b₀ :: suite) (envOf name scope L a cd))
        (fun f s₄ => wpAny (model prog w) (A₀.deeper (envOf name scope L a cd)) (do bindName (envOf name scope L a cd) n .none; unbindBehindTheSuite (envOf name scope L a cd) n pos) (fun _ s₅ => Q f s₅) E s₄)
        (AsSuiteRaised (model prog w) ((A₀.deeper (envOf name scope L a cd)).mark (some (.ref e))) (envOf name scope L a cd) n pos (notedBy (model prog w) ((A₀.deeper (envOf name scope L a cd)).mark (some (.ref e))) (envOf name scope L a cd) (cameBackBy (model prog w) (A₀.deeper (envOf name scope L a cd)) (envOf name scope L a cd) E)))
        { s' with heap := h', toks := tk })
    (hk : scope.kind = .function := by rfl) (hlo : (envOf name scope L a cd).kindOf n = some .local := by rfl) :
    wpAny (model prog w) (A₀.deeper (envOf name scope L a cd)) (handleBy (.ref e) (envOf name scope L a cd) (.ExceptHandler (some tt) (some n) (b₀ :: suite) pos :: rest)) Q E s' := by
  have R' := R
  obtain ⟨B₁, _, hBG₁, _, hfl₁⟩ := R'
  obtain ⟨g₅, T₅, F₅, K₅⟩ := kts_ground K F hBG₁ hfl₁.1 hsm
  refine wpAny_handleBy_cons (codeAny_handlers_test (T _ _ _ _ g₅ e m F₅ (XB.keeps K₅.stays) (topRead_of (TB.keeps K₅.stays)) R.ty fun h₅ kp => ?_)) (by intro q; cases q)
  have u5 : G.UpToSlots h₅ := hsm.trans (Heap.UpToSlots.of_keeps kp)
  obtain ⟨B, hB, hBG, hl, hfl⟩ := R.keeps kp
  have hL : B.get? L = none := by
    obtain ⟨_, ⟨L', _, hf, hn', _⟩, _⟩ := hfl.2.2.1
    obtain rfl : L = L' := Option.some.inj hf
    exact hn'
  refine codeAny_handlers_suite_as ?_
  refine d_flight hfl fun h₆ x6 u6 => ?_
  obtain ⟨g₆, T₆, F₆, K₆⟩ := kts_ground K F hBG x6.1 (u5.trans u6)
  obtain ⟨oe, ws, hoe, hoc, hod, hof⟩ := x6.obj
  have ne₆ : g₆.get? e = none := T₆.none_ _ (kts_fresh F hBG x6.2.1 fun o ho mm => by
    obtain ⟨_, o', ho', hd⟩ := K.frames.mem mm
    rw [ho] at ho'
    cases ho'
    obtain ⟨sl, hs⟩ := (u5.trans u6) _ _ (F.keep _ _ ho) hd
    rw [hoe] at hs
    cases hs
    exact hd _ hof)
  have Ne : News g₆ L h₆ ((e, oe) :: news) := fun q hq => by
    rcases List.mem_cons.mp hq with rfl | hq
    · refine ⟨hoe, fun z => ?_, ne₆⟩
      obtain ⟨oL, es, ep, hoL, hdL, _⟩ := F₆.ns
      have z' : e = L := z
      rw [← z', hoe] at hoL
      cases hoL
      rw [hof] at hdL
      cases hdL
    · exact ⟨x6.1 _ _ (hl q hq).1, (fun z => by have := (hl q hq).1; rw [z, hL] at this; cases this), T₆.none_ _ (kts_none F.keep (hl q hq).2.1)⟩
  refine stN F₆ Ne (fun h₇ F₇ N₇ => ?_) hk hlo
  exact k h₇ g₆ oe ws _ hoc hod hof (T0.trans T₆) F₇ N₇ K₆ (XB.keeps K₆.stays) (TB.keeps K₆.stays) (D.turn T₆)
end
end
section
def RaisableD (K : Frag) (E : Value → Shared → Prop) (v : Value) (s₁ : Shared) : Prop :=
  ∃ e C oe ws, v = .ref e ∧ K.In s₁.heap ∧ s₁.heap.get? e = some oe ∧ oe.cls = .ref C ∧ oe.data = .fields ws ∧ ws[1]? = some .none ∧ subIn K (.ref C) (.type "BaseException") = some true ∧ typeIn K (.ref C) = some (.type "type") ∧ E (.ref e) s₁
theorem x_Raise {M : Model} {A : Around} {E : Value → Shared → Prop} {s : Shared} {env : Env} {x : Expr} {pos : Pos} {Q : Flow → Shared → Prop} (K : Frag) (hh : A.handled = none)
    (h : wpAny M A (eval x env) (RaisableD K E) E s) : wpAny M A (exec (.Raise (some x) none pos) env) Q E s := by
  show wpAny M A (do standAt pos; raiseStmt env (some (do let v ← eval x env; standAt pos; pure v)) none) Q E s
  refine wpAny_bind (wpAny_standAt ?_)
  unfold raiseStmt
  dsimp only
  refine wpAny_bind (wpAny_bind (wpAny_mono h (fun v s₁ h₁ => wpAny_bind (wpAny_standAt (wpAny_pure ?_))) fun _ _ y => y))
  obtain ⟨e, C, oe, ws, rfl, X, he, hc, hd, h1, hsub, htyp, hE⟩ := h₁
  have ty : Looks M s₁.heap (typeOf (.ref e)) (.ref C) := by
    rw [← hc]
    exact (Looks.ld he).andThen .now
  have inst : Looks M s₁.heap (isInstance (.ref e) (.type "BaseException")) true := ty.andThen (looks_subIn X hsub)
  have tyC : Looks M s₁.heap (typeOf (.ref C)) (.type "type") := looks_typeIn X htyp
  have notType : ∀ {Q' : Bool → Shared → Prop}, Q' false s₁ → wpAny M A (isType (.ref e)) Q' E s₁ := by
    intro Q' hq
    simp only [isType, loadHead]
    refine wpAny_bind (wpAny_loadPart he ?_)
    rw [hd]
    exact wpAny_pure hq
  refine wpAny_bind (wpAny_pure ?_)
  dsimp only
  refine wpAny_bind (wpAny_holding ?_)
  unfold excFromValue isExcClass
  refine wpAny_bind (wpAny_bind (notType ?_))
  simp only [Bool.false_eq_true, if_false]
  refine wpAny_pure ?_
  simp only [Bool.false_eq_true, if_false]
  refine wpAny_bind (inst.here ?_)
  simp only [if_true]
  refine wpAny_pure ?_
  refine wpAny_bind (notType ?_)
  simp only [Bool.false_eq_true, if_false]
  unfold raisedInstance
  refine wpAny_bind (wpAny_bind (ty.here (wpAny_bind (tyC.here ?_))))
  rw [if_pos (by decide)]
  refine wpAny_pure ?_
  unfold setFlight raiseNew
  refine wpAny_bind (wpAny_bind (wpAny_field he hd h1 ?_))
  rw [if_neg (by decide)]
  refine wpAny_pure (wpAny_bind (wpAny_handled ?_))
  rw [hh]
  first
    | exact wpAny_throw hE
    | exact wpAny_bind (wpAny_pure (wpAny_throw hE))
end
section
theorem top_offX8 : True := by
  w_top off
  k_with_none
  exact True.intro
abbrev whyD (w : World) (tk : Nat) (x : Str) (t : Tok) : Obj := dictOf [⟨PyData.keyHash w.params "why", .str "why" tk, .str x t⟩] 1
theorem meta_Exception : typeOf (.type "Exception") = pure (.type "type") := by kernel_rfl
theorem words_X8 : True := by
  k_with_none
  k_with "getMethod type:Exception" => (k_here; k_dflt (refine' method_type ?F ?X meta_Exception (by decide +kernel) ?e ?h ?_; (case F => k_asm); (case X => k_asm); (case e => k_is); (case h => k_handed)))
  exact True.intro
theorem c_fault (w : World) (C : Addr) (hC : C = 44 ∨ C = 56) (x : Str) (t : Tok) : ∀ (lo : List Str) (mean : ExcName → Option Value) (mg mb : Str → Option Value) (news : List (Addr × Obj)) (dp un : Nat) (gd : Option (List Code)) (cn : Str) (cs : Scope) (a : Addr) (ccd : Value) (cl : List (Str × Addr)) (outer : List Env) (A₀ : Around) (base h₀ : Heap) (L : Addr) (m : Str → Option Value) (s : Shared) (Q E : Value → Shared → Prop),
    Below A₀ base outer h₀ → Fr h₀ L s.heap m → (K0 w.params).In h₀ → News h₀ L s.heap news → Top topProg lo mean mg mb h₀ → cs.kind = .function →
    dp + 3 < recursionLimit → un + 24 < cLine →
    (∀ (e d T : Addr) (tk : Nat) (h' : Heap) (tk' : Nat), Fr h₀ L h' m → News h₀ L h' ((e, excOf C T (some d)) :: (d, whyD w tk x t) :: news) → (∀ p ∈ ((d, whyD w tk x t) :: news : List (Addr × Obj)), p.1 ≠ e) → Q (.ref e) { s with heap := h', toks := tk' }) →
      wpAny (model pr w) (ktrTop dp un gd cn cs L a ccd cl outer) (call (.ref C) [.str x t]) Q E s := by
  unfold pr
  k_fill
  intro lo mean mg mb news dp un gd cn cs a ccd cl outer A₀ base h₀ L m s Q E B F X N T hk hdp hun hret
  rcases hC with rfl | rfl
  all_goals (
    k_dflt (refine' x_call PySem.F.excBase_Exception ?k1 ?k2 ?k3 ?kC ?ki ?kf ?kc ?kt ?ks ?kB ?kA ?kN ?kv ?_; (case k1 => k_asm); (case k2 => k_asm); (case k3 => k_asm); (case kC => k_is); (case ki => k_is); (case kf => k_is); (case kc => k_is); (case kt => k_is); (case ks => k_is); (case kB => rfl); (case kA => rfl); (case kN => rfl); (case kv => exact Nat.le_of_ble_eq_true rfl); k_whole)
    intro e T0 h1 F1 N1 l1 l2
    k_dflt (refine' code_def ?k1 ?k2 ?k3 ?k4 ?k5 ?kA ?kF ?kK ?k6 ?k7 ?k8 ?k9 ?kB ?_ ?c2 ?c3 ?c4 ?c5; (case kA => exact rfl); (case kF => exact rfl); (case kK => first | exact rfl | assumption); (case k1 => k_asm); (case k2 => k_asm); (case k3 => k_asm); (case k4 => exact N1); (case k5 => k_asm); (case k6 => k_is); (case k7 => k_is); (case k8 => k_room); (case k9 => exact BindsTo.of_eq rfl); (case c5 => decide); (case kB => exact locs rfl); (case c2 => exact rfl); (case c3 => exact rfl); (case c4 => exact rfl); k_whole; intro g' L' h' FG' F' N' B' X' T'; (try dsimp only); (try k_fold))
    k_steps
    k_dflt (refine' x_init ?F ?X ?N ?ne ?c ?B ?v ?_; (case F => k_asm); (case X => k_asm); (case N => exact N'); (case ne => exact fun p hp => (by rcases List.mem_cons.mp hp with rfl | hp; exact Nat.ne_of_lt l2; exact Nat.ne_of_lt (Nat.lt_trans (l1 p hp) l2))); (case c => k_is); (case B => rfl); (case v => exact Nat.le_of_ble_eq_true rfl))
    intro T1 h2 F2 N2 l3
    (try dsimp only)
    k_steps
    have ne1 : ∀ p ∈ news, p.1 ≠ e := fun p hp => Nat.ne_of_lt (Nat.lt_trans (l1 p hp) l2)
    have ne2 : T1 ≠ e := Nat.ne_of_gt (l3 (e, _) (.head _))
    have N2' := N2
    k_dflt (refine' x_setattr (T := T1) (rest := (T1, tupOf [Value.str x t]) :: (T0, tupOf [Value.str x t]) :: news) ?F ?X ?N ?ne ?s ?n ?o ?cc ?mm ?_; (case F => k_asm); (case X => k_asm); (case N => exact fun p hp => N2' p (by rcases List.mem_cons.mp hp with rfl | hp; exact .tail _ (.head _); rcases List.mem_cons.mp hp with rfl | hp; exact .head _; exact .tail _ (.tail _ hp))); (case ne => exact fun p hp => (by rcases List.mem_cons.mp hp with rfl | hp; exact ne2; rcases List.mem_cons.mp hp with rfl | hp; exact Nat.ne_of_lt l2; exact ne1 p hp)); (case s => k_is); (case n => k_is); (case o => k_is); (case cc => k_is); (case mm => exact ⟨[.ref 31], rfl, fun c hc => ⟨31, List.mem_singleton.mp hc⟩⟩))
    intro d tk tk2 h3 F3 N3 l4
    (try dsimp only)
    k_steps
    have pk : ∀ {Cc : Addr} {g : Heap} {L : Addr} {h : Heap}, News g L h ((d, whyD w tk x t) :: (e, excOf Cc T1 (some d)) :: (T1, tupOf [Value.str x t]) :: (T0, tupOf [Value.str x t]) :: news) → News g L h ((e, excOf Cc T1 (some d)) :: (d, whyD w tk x t) :: news) := fun {_ _ _ _} N9 p hp => N9 p (by
      rcases List.mem_cons.mp hp with rfl | hp
      · exact .tail _ (.head _)
      · rcases List.mem_cons.mp hp with rfl | hp
        · exact .head _
        · exact .tail _ (.tail _ (.tail _ (.tail _ hp))))
    refine' hret e d T1 tk _ _ ?kf ?kn ?ke
    case kf => k_asm
    case kn => exact pk (by with_reducible assumption)
    case ke =>
      intro p hp
      rcases List.mem_cons.mp hp with rfl | hp
      · exact Nat.ne_of_gt (l4 (e, _) (.head _))
      · exact ne1 p hp)
end
section
theorem top_offX9 : True := by
  w_top off
  k_with_none
  exact True.intro
/-- a def's claim: it raises the text's own class C with the words x -/
abbrev Raises (w : World) (k : Nat) (f : Addr) (pre : Prop) (vs : List Value) (C : Addr) (x : Str) : Prop :=
  ∀ (lo : List Str) (mean : ExcName → Option Value) (mg mb : Str → Option Value) (news : List (Addr × Obj)) (dp un : Nat) (gd : Option (List Code)) (cn : Str) (cs : Scope) (a : Addr) (ccd : Value) (cl : List (Str × Addr)) (outer : List Env) (A₀ : Around) (base h₀ : Heap) (L : Addr) (m : Str → Option Value) (s : Shared) (Q E : Value → Shared → Prop),
    pre → Below A₀ base outer h₀ → Fr h₀ L s.heap m → (K0 w.params).In h₀ → News h₀ L s.heap news → Top topProg lo mean mg mb h₀ → cs.kind = .function →
    dp + k < recursionLimit → un + 8 * k < cLine →
    (∀ (e d : Addr) (tk : Nat) (t : Tok) (g h' : Heap) (tk' : Nat), Fr h₀ L g m → RaisedD base g (envX cn cs L a ccd cl :: outer) e C d ((d, whyD w tk x t) :: news) h' → g.UpToSlots h' → E (.ref e) { s with heap := h', toks := tk' }) →
      wpAny (model pr w) (ktrTop dp un gd cn cs L a ccd cl outer) (call (.ref f) vs) Q E s
theorem Raises.use {w : World} {k : Nat} {f : Addr} {pre : Prop} {vs : List Value} {C : Addr} {x : Str} {lo : List Str} {mean : ExcName → Option Value} {mg mb : Str → Option Value} {news : List (Addr × Obj)} {dp un : Nat} {gd : Option (List Code)} {cn : Str} {cs : Scope} {a : Addr} {ccd : Value} {cl : List (Str × Addr)} {outer : List Env} {A₀ : Around} {base h₀ : Heap} {L : Addr} {m : Str → Option Value} {s : Shared} {Q E : Value → Shared → Prop}
    (Cc : Raises w k f pre vs C x) (hp : pre) (B : Below A₀ base outer h₀) (F : Fr h₀ L s.heap m) (X : (K0 w.params).In h₀) (N : News h₀ L s.heap news) (T : Top topProg lo mean mg mb h₀) (hk : cs.kind = .function)
    (hd : dp + k < recursionLimit) (hu : un + 8 * k < cLine)
    (ret : ∀ (e d : Addr) (tk : Nat) (t : Tok) (g h' : Heap) (tk' : Nat), Fr h₀ L g m → RaisedD base g (envX cn cs L a ccd cl :: outer) e C d ((d, whyD w tk x t) :: news) h' → g.UpToSlots h' → E (.ref e) { s with heap := h', toks := tk' }) :
    wpAny (model pr w) (ktrTop dp un gd cn cs L a ccd cl outer) (call (.ref f) vs) Q E s :=
  Cc lo mean mg mb news dp un gd cn cs a ccd cl outer A₀ base h₀ L m s Q E hp B F X N T hk hd hu ret
theorem x_RaiseK {M : Model} {A : Around} {E : Value → Shared → Prop} {s : Shared} {env : Env} {x : Expr} {pos : Pos} {Q : Flow → Shared → Prop} {K : Frag} {h₀ : Heap} (_X : K.In h₀) (hh : A.handled = none)
    (h : wpAny M A (eval x env) (RaisableD K E) E s) : wpAny M A (exec (.Raise (some x) none pos) env) Q E s := x_Raise K hh h
theorem words_X9 : True := by
  k_with_none
  k_with "exec Raise some none" => (k_here; k_dflt (refine' x_RaiseK ?X ?h ?_; (case X => k_asm); (case h => rfl)); walk_say "X RAISE")
  k_with "call ref" => (k_here; k_dflt (refine' c_fault _ _ ?hC _ _ _ _ _ _ _ _ _ _ _ _ _ _ _ _ _ _ _ _ _ _ _ _ ?k1 ?k2 ?k3 ?k4 ?k5 ?kK ?kd ?ku ?kR; (case hC => first | exact .inl rfl | exact .inr rfl); (case k1 => k_asm); (case k2 => k_asm); (case k3 => k_asm); (case k4 => k_asm); (case k5 => k_asm); (case kK => first | exact rfl | assumption); (case kd => k_room); (case ku => k_units); intro e9 d9 T9 tk9 h9 tq9 F9 N9 ne9; refine ⟨_, _, _, _, rfl, ?X, (N9 _ (.head _)).1, rfl, rfl, rfl, ?s, ?t, ?_⟩; (case X => k_in); (case s => k_is); (case t => k_is); (try dsimp only); k_unfold; (try dsimp only); refine' leave_raiseD ?lK ?lF ?lN ?lne ?_; (case lK => assumption); (case lF => exact F9); (case lN => exact N9); (case lne => exact ne9); intro h8 R8 U8; (try dsimp only)); walk_say "X LEAVES")
  exact True.intro
theorem c_div_s (w : World) (x : Int) (t : Tok) (v : Tok) (b : Int) (u : Tok) : Raises w 5 149 True [.int x t, .int 0 v, .int b u] 44 (Str.ofString "integer divide by zero") := by
  unfold Raises pr
  k_fill
  intro lo mean mg mb news dp un gd cn cs a ccd cl outer A₀ base h₀ L m s Q E hpre B F X N T hk hdp hun hraise
  refine wpAny_call ?_
  k_dflt cell_enter
  k_steps
  all_goals (refine' hraise _ _ _ _ _ _ _ ?ra ?rb ?rc; (case rb => assumption); (case rc => assumption); (case ra => assumption))
theorem c_div_u (w : World) (x : Int) (t : Tok) (v : Tok) (b : Int) (u : Tok) : Raises w 5 156 True [.int x t, .int 0 v, .int b u] 44 (Str.ofString "integer divide by zero") := by
  unfold Raises pr
  k_fill
  intro lo mean mg mb news dp un gd cn cs a ccd cl outer A₀ base h₀ L m s Q E hpre B F X N T hk hdp hun hraise
  refine wpAny_call ?_
  k_dflt cell_enter
  k_steps
  all_goals (refine' hraise _ _ _ _ _ _ _ ?ra ?rb ?rc; (case rb => assumption); (case rc => assumption); (case ra => assumption))
theorem c_rem_s (w : World) (x : Int) (t : Tok) (v : Tok) (b : Int) (u : Tok) : Raises w 5 163 True [.int x t, .int 0 v, .int b u] 44 (Str.ofString "integer divide by zero") := by
  unfold Raises pr
  k_fill
  intro lo mean mg mb news dp un gd cn cs a ccd cl outer A₀ base h₀ L m s Q E hpre B F X N T hk hdp hun hraise
  refine wpAny_call ?_
  k_dflt cell_enter
  k_steps
  all_goals (refine' hraise _ _ _ _ _ _ _ ?ra ?rb ?rc; (case rb => assumption); (case rc => assumption); (case ra => assumption))
theorem c_rem_u (w : World) (x : Int) (t : Tok) (v : Tok) (b : Int) (u : Tok) : Raises w 5 170 True [.int x t, .int 0 v, .int b u] 44 (Str.ofString "integer divide by zero") := by
  unfold Raises pr
  k_fill
  intro lo mean mg mb news dp un gd cn cs a ccd cl outer A₀ base h₀ L m s Q E hpre B F X N T hk hdp hun hraise
  refine wpAny_call ?_
  k_dflt cell_enter
  k_steps
  all_goals (refine' hraise _ _ _ _ _ _ _ ?ra ?rb ?rc; (case rb => assumption); (case rc => assumption); (case ra => assumption))
end
section
theorem top_offX10 : True := by
  w_top off
  k_with_none
  exact True.intro
def Pick (l : List Int) (c : Int) : Prop := c ∈ l
def PickC (l : List Int) (c : Int) : Prop := c ∈ l
theorem item_at {prog : Program} {w : World} {A : Around} {E : Value → Shared → Prop} {s : Shared} {h₀ : Heap} {L a : Addr} {m : Str → Option Value} {K : Frag} {n : Nat} {v : Value} {value slice : Expr} {l : List Value} {dd : Option Addr} {sl : Array (Option Value)} {k : Int} {u : Tok} {Q : Value → Shared → Prop}
    (j : Nat) (hk : k = (j : Int)) (F : Fr h₀ L s.heap m) (X₀ : K.In h₀) (hl : K.lookup a = some ⟨.type "tuple", dd, .seq l.toArray n, sl⟩) (hb : l.length < 1000) (hx : l[j]? = some v) (h : Q v s)
    (hs : subscripted slice false (.ref a) (.int k u) = operate [.ref a, .int k u] (getItem (.ref a) (.int k u)) := by with_unfolding_all rfl) :
    wpAny (model prog w) A (subscriptTail value slice (.ref a) (.int k u)) Q E s := by
  subst hk
  have hj : j < l.length := (List.getElem?_eq_some_iff.mp hx).1
  refine topTup_K F X₀ hl (by omega) (by omega) (j := j) ?_ hx h hs
  unfold seqIndex?
  have h1 : ¬ ((j : Int) < 0) := by omega
  have h2 : (j : Int) < (l.length : Int) := by omega
  simp [h1, h2]
theorem words_X10 : True := by
  k_with_none
  k_with "exec Raise some none" => (k_here; k_dflt (refine' x_RaiseK ?X ?h ?_; (case X => k_asm); (case h => rfl)); walk_say "X RAISE")
  k_with "call ref" => (k_here; k_dflt (refine' c_fault _ _ ?hC _ _ _ _ _ _ _ _ _ _ _ _ _ _ _ _ _ _ _ _ _ _ _ _ ?k1 ?k2 ?k3 ?k4 ?k5 ?kK ?kd ?ku ?_; (case hC => first | exact .inl rfl | exact .inr rfl); (case k1 => k_asm); (case k2 => k_asm); (case k3 => k_asm); (case k4 => k_asm); (case k5 => k_asm); (case kK => first | exact rfl | assumption); (case kd => k_room); (case ku => k_units); intro e9 d9 T9 tk9 h9 tq9 F9 N9 ne9; refine ⟨_, _, _, _, rfl, ?X, (N9 _ (.head _)).1, rfl, rfl, rfl, ?s, ?t, ?_⟩; (case X => k_in); (case s => k_is); (case t => k_is); (try dsimp only); k_unfold; (try dsimp only); refine' leave_raiseD ?lK ?lF ?lN ?lne ?_; (case lK => assumption); (case lF => exact F9); (case lN => exact N9); (case lne => exact ne9); intro h8 R8 U8; (try dsimp only)); walk_say "X LEAVES")
  k_with "call ref cons nil" => (k_here; k_dflt ((first | ((first | (refine' GivesPair.use (pl_A _ _ _ _ _ _ _ _ _) ?kp ?k1 ?k2 ?k3 ?k4 ?k5 ?kK ?kd ?ku ?_; (case kp => omega)) | (refine' GivesPair.use (pl_B _ _ _ _ _ _ _ _ _) ?kp ?k1 ?k2 ?k3 ?k4 ?k5 ?kK ?kd ?ku ?_; (case kp => omega))); (case k1 => k_asm); (case k2 => k_asm); (case k3 => k_asm); (case k4 => k_asm); (case k5 => k_asm); (case kK => first | exact rfl | assumption); (case kd => k_room); (case ku => k_units); intro D9 t8 t9 h9 tk9 F9 N9) | ((refine' Gives.use (pl_N _ _ _ _ _ _ _ _ _) ?kp ?k1 ?k2 ?k3 ?k4 ?k5 ?kK ?kd ?ku ?_; (case kp => omega)); (case k1 => k_asm); (case k2 => k_asm); (case k3 => k_asm); (case k4 => k_asm); (case k5 => k_asm); (case kK => first | exact rfl | assumption); (case kd => k_room); (case ku => k_units); intro t9 h9 tk9 F9 N9)); (try dsimp only); (try k_fold)); walk_say "PLACE")
  k_with "callWith ref nil nil" => (k_here; k_dflt (refine' callWith_K ?k1 ?k2 ?_; (case k1 => k_asm); (case k2 => k_is); k_whole))
  k_with "subscriptTail Name Constant ref int" => (k_here; k_dflt (refine item_tupleT (News.isTup (by k_asm) (by k_mem)) (by decide) (by decide) rfl rfl ?_))
  k_with "call ref cons nil" => (k_here; k_dflt (first | refine' SomeInt.use (c_add _ _ _ _ _ _ ) ?kp ?k1 ?k2 ?k3 ?k4 ?k5 ?kK ?kd ?ku ?_ | refine' SomeInt.use (c_sub _ _ _ _ _ _ ) ?kp ?k1 ?k2 ?k3 ?k4 ?k5 ?kK ?kd ?ku ?_ | refine' SomeInt.use (c_mul _ _ _ _ _ _ ) ?kp ?k1 ?k2 ?k3 ?k4 ?k5 ?kK ?kd ?ku ?_ | refine' SomeInt.use (c_bits_and _ _ _ _ _ _ ) ?kp ?k1 ?k2 ?k3 ?k4 ?k5 ?kK ?kd ?ku ?_ | refine' SomeInt.use (c_bits_or _ _ _ _ _ _ ) ?kp ?k1 ?k2 ?k3 ?k4 ?k5 ?kK ?kd ?ku ?_ | refine' SomeInt.use (c_bits_xor _ _ _ _ _ _ ) ?kp ?k1 ?k2 ?k3 ?k4 ?k5 ?kK ?kd ?ku ?_ | refine' SomeInt.use (c_shl _ _ _ _ _ _ ) ?kp ?k1 ?k2 ?k3 ?k4 ?k5 ?kK ?kd ?ku ?_ | refine' SomeInt.use (c_shr_s _ _ _ _ _ _ ) ?kp ?k1 ?k2 ?k3 ?k4 ?k5 ?kK ?kd ?ku ?_ | refine' SomeInt.use (c_shr_u _ _ _ _ _ _ ) ?kp ?k1 ?k2 ?k3 ?k4 ?k5 ?kK ?kd ?ku ?_ | refine' SomeInt.use (c_rotl _ _ _ _ _ _ ) ?kp ?k1 ?k2 ?k3 ?k4 ?k5 ?kK ?kd ?ku ?_ | refine' SomeInt.use (c_rotr _ _ _ _ _ _ ) ?kp ?k1 ?k2 ?k3 ?k4 ?k5 ?kK ?kd ?ku ?_); (case kp => omega); (case k1 => k_asm); (case k2 => k_asm); (case k3 => k_asm); (case k4 => k_asm); (case k5 => k_asm); (case kK => first | exact rfl | assumption); (case kd => k_room); (case ku => k_units); intro r9 t9 h9 tk9 F9 N9; (try dsimp only); (try k_fold); walk_say "CONTRACT")
  k_with "call ref cons nil" => (k_here; k_dflt (first | refine' SomeInt.use (c_eq _ _ _ _ _ _ ) ?kp ?k1 ?k2 ?k3 ?k4 ?k5 ?kK ?kd ?ku ?_ | refine' SomeInt.use (c_ne _ _ _ _ _ _ ) ?kp ?k1 ?k2 ?k3 ?k4 ?k5 ?kK ?kd ?ku ?_ | refine' SomeInt.use (c_lt_s _ _ _ _ _ _ ) ?kp ?k1 ?k2 ?k3 ?k4 ?k5 ?kK ?kd ?ku ?_ | refine' SomeInt.use (c_lt_u _ _ _ _ _ _ ) ?kp ?k1 ?k2 ?k3 ?k4 ?k5 ?kK ?kd ?ku ?_ | refine' SomeInt.use (c_gt_s _ _ _ _ _ _ ) ?kp ?k1 ?k2 ?k3 ?k4 ?k5 ?kK ?kd ?ku ?_ | refine' SomeInt.use (c_gt_u _ _ _ _ _ _ ) ?kp ?k1 ?k2 ?k3 ?k4 ?k5 ?kK ?kd ?ku ?_ | refine' SomeInt.use (c_le_s _ _ _ _ _ _ ) ?kp ?k1 ?k2 ?k3 ?k4 ?k5 ?kK ?kd ?ku ?_ | refine' SomeInt.use (c_le_u _ _ _ _ _ _ ) ?kp ?k1 ?k2 ?k3 ?k4 ?k5 ?kK ?kd ?ku ?_ | refine' SomeInt.use (c_ge_s _ _ _ _ _ _ ) ?kp ?k1 ?k2 ?k3 ?k4 ?k5 ?kK ?kd ?ku ?_ | refine' SomeInt.use (c_ge_u _ _ _ _ _ _ ) ?kp ?k1 ?k2 ?k3 ?k4 ?k5 ?kK ?kd ?ku ?_); (case kp => omega); (case k1 => k_asm); (case k2 => k_asm); (case k3 => k_asm); (case k4 => k_asm); (case k5 => k_asm); (case kK => first | exact rfl | assumption); (case kd => k_room); (case ku => k_units); intro r9 t9 h9 tk9 F9 N9; (try dsimp only); (try k_fold); walk_say "CONTRACT")
  k_with "subscriptTail Name Subscript ref int" => (k_here; (rename Pick _ _ => hP); (unfold Pick at hP); (simp only [List.mem_cons, List.not_mem_nil, or_false] at hP); rcases hP with hP | hP | hP | hP | hP | hP | hP | hP | hP | hP | hP <;> k_dflt (first | (refine' item_at 0 ?hk ?F ?X ?l ?hb ?hx ?_; (case hk => omega); (case F => k_asm); (case X => k_asm); (case l => k_is); (case hb => decide); (case hx => rfl)) | (refine' item_at 1 ?hk ?F ?X ?l ?hb ?hx ?_; (case hk => omega); (case F => k_asm); (case X => k_asm); (case l => k_is); (case hb => decide); (case hx => rfl)) | (refine' item_at 2 ?hk ?F ?X ?l ?hb ?hx ?_; (case hk => omega); (case F => k_asm); (case X => k_asm); (case l => k_is); (case hb => decide); (case hx => rfl)) | (refine' item_at 7 ?hk ?F ?X ?l ?hb ?hx ?_; (case hk => omega); (case F => k_asm); (case X => k_asm); (case l => k_is); (case hb => decide); (case hx => rfl)) | (refine' item_at 8 ?hk ?F ?X ?l ?hb ?hx ?_; (case hk => omega); (case F => k_asm); (case X => k_asm); (case l => k_is); (case hb => decide); (case hx => rfl)) | (refine' item_at 9 ?hk ?F ?X ?l ?hb ?hx ?_; (case hk => omega); (case F => k_asm); (case X => k_asm); (case l => k_is); (case hb => decide); (case hx => rfl)) | (refine' item_at 10 ?hk ?F ?X ?l ?hb ?hx ?_; (case hk => omega); (case F => k_asm); (case X => k_asm); (case l => k_is); (case hb => decide); (case hx => rfl)) | (refine' item_at 11 ?hk ?F ?X ?l ?hb ?hx ?_; (case hk => omega); (case F => k_asm); (case X => k_asm); (case l => k_is); (case hb => decide); (case hx => rfl)) | (refine' item_at 12 ?hk ?F ?X ?l ?hb ?hx ?_; (case hk => omega); (case F => k_asm); (case X => k_asm); (case l => k_is); (case hb => decide); (case hx => rfl)) | (refine' item_at 13 ?hk ?F ?X ?l ?hb ?hx ?_; (case hk => omega); (case F => k_asm); (case X => k_asm); (case l => k_is); (case hb => decide); (case hx => rfl)) | (refine' item_at 14 ?hk ?F ?X ?l ?hb ?hx ?_; (case hk => omega); (case F => k_asm); (case X => k_asm); (case l => k_is); (case hb => decide); (case hx => rfl))))
  k_with "subscriptTail Name Subscript ref int" => (k_here; (rename PickC _ _ => hP); (unfold PickC at hP); (simp only [List.mem_cons, List.not_mem_nil, or_false] at hP); rcases hP with hP | hP | hP | hP | hP | hP | hP | hP | hP | hP <;> k_dflt (first | (refine' item_at 0 ?hk ?F ?X ?l ?hb ?hx ?_; (case hk => omega); (case F => k_asm); (case X => k_asm); (case l => k_is); (case hb => decide); (case hx => rfl)) | (refine' item_at 1 ?hk ?F ?X ?l ?hb ?hx ?_; (case hk => omega); (case F => k_asm); (case X => k_asm); (case l => k_is); (case hb => decide); (case hx => rfl)) | (refine' item_at 2 ?hk ?F ?X ?l ?hb ?hx ?_; (case hk => omega); (case F => k_asm); (case X => k_asm); (case l => k_is); (case hb => decide); (case hx => rfl)) | (refine' item_at 3 ?hk ?F ?X ?l ?hb ?hx ?_; (case hk => omega); (case F => k_asm); (case X => k_asm); (case l => k_is); (case hb => decide); (case hx => rfl)) | (refine' item_at 4 ?hk ?F ?X ?l ?hb ?hx ?_; (case hk => omega); (case F => k_asm); (case X => k_asm); (case l => k_is); (case hb => decide); (case hx => rfl)) | (refine' item_at 5 ?hk ?F ?X ?l ?hb ?hx ?_; (case hk => omega); (case F => k_asm); (case X => k_asm); (case l => k_is); (case hb => decide); (case hx => rfl)) | (refine' item_at 6 ?hk ?F ?X ?l ?hb ?hx ?_; (case hk => omega); (case F => k_asm); (case X => k_asm); (case l => k_is); (case hb => decide); (case hx => rfl)) | (refine' item_at 7 ?hk ?F ?X ?l ?hb ?hx ?_; (case hk => omega); (case F => k_asm); (case X => k_asm); (case l => k_is); (case hb => decide); (case hx => rfl)) | (refine' item_at 8 ?hk ?F ?X ?l ?hb ?hx ?_; (case hk => omega); (case F => k_asm); (case X => k_asm); (case l => k_is); (case hb => decide); (case hx => rfl)) | (refine' item_at 9 ?hk ?F ?X ?l ?hb ?hx ?_; (case hk => omega); (case F => k_asm); (case X => k_asm); (case l => k_is); (case hb => decide); (case hx => rfl))))
  exact True.intro
theorem r2_rest32 (w : World) (code x : Int) (t v u : Tok) : SomeInt w 6 348 ((0 ≤ x ∧ x < 4294967296) ∧ Pick [106, 107, 108, 113, 114, 115, 116, 117, 118, 119, 120] code) [.int code t, .int x v, .int 0 u] := by
  unfold SomeInt pr
  k_fill
  intro lo mean mg mb news dp un gd cn cs a ccd cl outer A₀ base h₀ L m s Q E hpre B F X N T hk hdp hun hret
  obtain ⟨⟨hx0, hx1⟩, hP⟩ := hpre
  have hlo : 106 ≤ code ∧ code < 121 := by unfold Pick at hP; simp only [List.mem_cons, List.not_mem_nil, or_false] at hP; omega
  obtain ⟨hlo, hhi⟩ := hlo
  refine wpAny_call ?_
  k_dflt cell_enter
  k_steps
  all_goals first | (refine' hret _ _ _ _ ?r1 ?r2; (case r1 => k_asm); (case r2 => first | (refine fun p hp => (by with_reducible assumption : News _ _ _ _) p ?_; (repeat (first | exact hp | apply List.Mem.tail))) | with_reducible assumption | exact fun p hp => (by with_reducible assumption : News _ _ _ _) p (.tail _ hp) | exact fun p hp => (by with_reducible assumption : News _ _ _ _) p (.tail _ (.tail _ hp)))) | w_report
theorem r2_rest64 (w : World) (code x : Int) (t v u : Tok) : SomeInt w 6 348 ((0 ≤ x ∧ x < 4294967296) ∧ Pick [124, 125, 126, 131, 132, 133, 134, 135, 136, 137, 138] code) [.int code t, .int x v, .int 0 u] := by
  unfold SomeInt pr
  k_fill
  intro lo mean mg mb news dp un gd cn cs a ccd cl outer A₀ base h₀ L m s Q E hpre B F X N T hk hdp hun hret
  obtain ⟨⟨hx0, hx1⟩, hP⟩ := hpre
  have hlo : 124 ≤ code ∧ code < 139 := by unfold Pick at hP; simp only [List.mem_cons, List.not_mem_nil, or_false] at hP; omega
  obtain ⟨hlo, hhi⟩ := hlo
  refine wpAny_call ?_
  k_dflt cell_enter
  k_steps
  all_goals first | (refine' hret _ _ _ _ ?r1 ?r2; (case r1 => k_asm); (case r2 => first | (refine fun p hp => (by with_reducible assumption : News _ _ _ _) p ?_; (repeat (first | exact hp | apply List.Mem.tail))) | with_reducible assumption | exact fun p hp => (by with_reducible assumption : News _ _ _ _) p (.tail _ hp) | exact fun p hp => (by with_reducible assumption : News _ _ _ _) p (.tail _ (.tail _ hp)))) | w_report
theorem r2_cmp32 (w : World) (code x : Int) (t v u : Tok) : SomeInt w 6 348 ((0 ≤ x ∧ x < 4294967296) ∧ PickC [70, 71, 72, 73, 74, 75, 76, 77, 78, 79] code) [.int code t, .int x v, .int 0 u] := by
  unfold SomeInt pr
  k_fill
  intro lo mean mg mb news dp un gd cn cs a ccd cl outer A₀ base h₀ L m s Q E hpre B F X N T hk hdp hun hret
  obtain ⟨⟨hx0, hx1⟩, hP⟩ := hpre
  have hlo : 70 ≤ code ∧ code < 80 := by unfold PickC at hP; simp only [List.mem_cons, List.not_mem_nil, or_false] at hP; omega
  obtain ⟨hlo, hhi⟩ := hlo
  refine wpAny_call ?_
  k_dflt cell_enter
  k_steps
  all_goals first | (refine' hret _ _ _ _ ?r1 ?r2; (case r1 => k_asm); (case r2 => first | (refine fun p hp => (by with_reducible assumption : News _ _ _ _) p ?_; (repeat (first | exact hp | apply List.Mem.tail))) | with_reducible assumption | exact fun p hp => (by with_reducible assumption : News _ _ _ _) p (.tail _ hp) | exact fun p hp => (by with_reducible assumption : News _ _ _ _) p (.tail _ (.tail _ hp)))) | w_report
theorem r2_cmp64 (w : World) (code x : Int) (t v u : Tok) : SomeInt w 6 348 ((0 ≤ x ∧ x < 4294967296) ∧ PickC [81, 82, 83, 84, 85, 86, 87, 88, 89, 90] code) [.int code t, .int x v, .int 0 u] := by
  unfold SomeInt pr
  k_fill
  intro lo mean mg mb news dp un gd cn cs a ccd cl outer A₀ base h₀ L m s Q E hpre B F X N T hk hdp hun hret
  obtain ⟨⟨hx0, hx1⟩, hP⟩ := hpre
  have hlo : 81 ≤ code ∧ code < 91 := by unfold PickC at hP; simp only [List.mem_cons, List.not_mem_nil, or_false] at hP; omega
  obtain ⟨hlo, hhi⟩ := hlo
  refine wpAny_call ?_
  k_dflt cell_enter
  k_steps
  all_goals first | (refine' hret _ _ _ _ ?r1 ?r2; (case r1 => k_asm); (case r2 => first | (refine fun p hp => (by with_reducible assumption : News _ _ _ _) p ?_; (repeat (first | exact hp | apply List.Mem.tail))) | with_reducible assumption | exact fun p hp => (by with_reducible assumption : News _ _ _ _) p (.tail _ hp) | exact fun p hp => (by with_reducible assumption : News _ _ _ _) p (.tail _ (.tail _ hp)))) | w_report
end
section
theorem top_offX11 : True := by
  w_top off
  k_with_none
  exact True.intro
def PickD (l : List Int) (c : Int) : Prop := c ∈ l
theorem words_X11 : True := by
  k_with_none
  k_with "exec Raise some none" => (k_here; k_dflt (refine' x_RaiseK ?X ?h ?_; (case X => k_asm); (case h => rfl)); walk_say "X RAISE")
  k_with "call ref" => (k_here; k_dflt (refine' c_fault _ _ ?hC _ _ _ _ _ _ _ _ _ _ _ _ _ _ _ _ _ _ _ _ _ _ _ _ ?k1 ?k2 ?k3 ?k4 ?k5 ?kK ?kd ?ku ?_; (case hC => first | exact .inl rfl | exact .inr rfl); (case k1 => k_asm); (case k2 => k_asm); (case k3 => k_asm); (case k4 => k_asm); (case k5 => k_asm); (case kK => first | exact rfl | assumption); (case kd => k_room); (case ku => k_units); intro e9 d9 T9 tk9 h9 tq9 F9 N9 ne9; refine ⟨_, _, _, _, rfl, ?X, (N9 _ (.head _)).1, rfl, rfl, rfl, ?s, ?t, ?_⟩; (case X => k_in); (case s => k_is); (case t => k_is); (try dsimp only); k_unfold; (try dsimp only); refine' leave_raiseD ?lK ?lF ?lN ?lne ?_; (case lK => assumption); (case lF => exact F9); (case lN => exact N9); (case lne => exact ne9); intro h8 R8 U8; (try dsimp only)); walk_say "X LEAVES")
  k_with "call ref" => (k_here; k_dflt ((first | refine' Raises.use (c_div_s _ _ _ _ _ _ ) ?kp ?k1 ?k2 ?k3 ?k4 ?k5 ?kK ?kd ?ku ?_ | refine' Raises.use (c_div_u _ _ _ _ _ _ ) ?kp ?k1 ?k2 ?k3 ?k4 ?k5 ?kK ?kd ?ku ?_ | refine' Raises.use (c_rem_s _ _ _ _ _ _ ) ?kp ?k1 ?k2 ?k3 ?k4 ?k5 ?kK ?kd ?ku ?_ | refine' Raises.use (c_rem_u _ _ _ _ _ _ ) ?kp ?k1 ?k2 ?k3 ?k4 ?k5 ?kK ?kd ?ku ?_); (case kp => first | trivial | omega); (case k1 => k_asm); (case k2 => k_asm); (case k3 => k_asm); (case k4 => k_asm); (case k5 => k_asm); (case kK => first | exact rfl | assumption); (case kd => k_room); (case ku => k_units); intro e9 d9 tk9 t9 g9 h9 tq9 F9 R9 U9; (try dsimp only); k_unfold; (try dsimp only); refine' leave_onO ?lK ?lF ?lR ?lU ?_; (case lK => assumption); (case lF => exact F9); (case lR => exact R9); (case lU => exact U9); intro h8 R8 U8; (try dsimp only)); walk_say "X PASSES")
  k_with "subscriptTail Name Subscript ref int" => (k_here; (rename PickD _ _ => hP); (unfold PickD at hP); (simp only [List.mem_cons, List.not_mem_nil, or_false] at hP); rcases hP with hP | hP | hP | hP <;> k_dflt (first | (refine' item_at 3 ?hk ?F ?X ?l ?hb ?hx ?_; (case hk => omega); (case F => k_asm); (case X => k_asm); (case l => k_is); (case hb => decide); (case hx => rfl)) | (refine' item_at 4 ?hk ?F ?X ?l ?hb ?hx ?_; (case hk => omega); (case F => k_asm); (case X => k_asm); (case l => k_is); (case hb => decide); (case hx => rfl)) | (refine' item_at 5 ?hk ?F ?X ?l ?hb ?hx ?_; (case hk => omega); (case F => k_asm); (case X => k_asm); (case l => k_is); (case hb => decide); (case hx => rfl)) | (refine' item_at 6 ?hk ?F ?X ?l ?hb ?hx ?_; (case hk => omega); (case F => k_asm); (case X => k_asm); (case l => k_is); (case hb => decide); (case hx => rfl))))
  k_with "call ref cons nil" => (k_here; k_dflt ((first | (refine' Gives.use (pl_N _ _ _ _ _ _ _ _ _) ?kp ?k1 ?k2 ?k3 ?k4 ?k5 ?kK ?kd ?ku ?_; (case kp => omega)) | (refine' Gives.use (c_narrow_none _ _ _) ?kp ?k1 ?k2 ?k3 ?k4 ?k5 ?kK ?kd ?ku ?_; (case kp => with_reducible assumption))); (case k1 => k_asm); (case k2 => k_asm); (case k3 => k_asm); (case k4 => k_asm); (case k5 => k_asm); (case kK => first | exact rfl | assumption); (case kd => k_room); (case ku => k_units); intro t9 h9 tk9 F9 N9; (try dsimp only); (try k_fold)); walk_say "PLACE")
  k_with "callWith ref nil nil" => (k_here; k_dflt (refine' callWith_K ?k1 ?k2 ?_; (case k1 => k_asm); (case k2 => k_is); k_whole))
  k_with "ite" => (refine ite_neg (by with_reducible assumption) ?_)
  exact True.intro
theorem r2_dv32 (w : World) (code x : Int) (t v u : Tok) : Raises w 8 348 (PickD [109, 110, 111, 112] code) [.int code t, .int x v, .int 0 u] 44 (Str.ofString "integer divide by zero") := by
  unfold Raises pr
  k_fill
  intro lo mean mg mb news dp un gd cn cs a ccd cl outer A₀ base h₀ L m s Q E hpre B F X N T hk hdp hun hraise
  obtain ⟨hlo, hhi⟩ : 106 ≤ code ∧ code < 121 := by unfold PickD at hpre; simp only [List.mem_cons, List.not_mem_nil, or_false] at hpre; omega
  refine wpAny_call ?_
  k_dflt cell_enter
  k_steps
  all_goals (try k_data)
  all_goals first | (refine' hraise _ _ _ _ _ _ _ ?ra ?rb ?rc; (case rb => first | assumption | exact RaisedD.skip (by assumption) | exact RaisedD.skip (RaisedD.skip (by assumption))); (case rc => assumption); (case ra => assumption)) | (exfalso; omega) | w_report
theorem r2_dv64 (w : World) (code x : Int) (t v u : Tok) : Raises w 8 348 (PickD [127, 128, 129, 130] code) [.int code t, .int x v, .int 0 u] 44 (Str.ofString "integer divide by zero") := by
  unfold Raises pr
  k_fill
  intro lo mean mg mb news dp un gd cn cs a ccd cl outer A₀ base h₀ L m s Q E hpre B F X N T hk hdp hun hraise
  obtain ⟨hlo, hhi⟩ : 124 ≤ code ∧ code < 139 := by unfold PickD at hpre; simp only [List.mem_cons, List.not_mem_nil, or_false] at hpre; omega
  refine wpAny_call ?_
  k_dflt cell_enter
  k_steps
  all_goals (try k_data)
  all_goals first | (refine' hraise _ _ _ _ _ _ _ ?ra ?rb ?rc; (case rb => first | assumption | exact RaisedD.skip (by assumption) | exact RaisedD.skip (RaisedD.skip (by assumption))); (case rc => assumption); (case ra => assumption)) | (exfalso; omega) | w_report
theorem r2_no (w : World) (code x : Int) (t v u : Tok) : Raises w 8 348 (¬ T2 code) [.int code t, .int x v, .int 0 u] 56 (Str.ofString "no operation on two numbers") := by
  unfold Raises pr
  k_fill
  intro lo mean mg mb news dp un gd cn cs a ccd cl outer A₀ base h₀ L m s Q E hpre B F X N T hk hdp hun hraise
  unfold T2 at hpre
  refine wpAny_call ?_
  k_dflt cell_enter
  k_steps
  all_goals (try k_data)
  all_goals first | (refine' hraise _ _ _ _ _ _ _ ?ra ?rb ?rc; (case rb => first | assumption | exact RaisedD.skip (by assumption) | exact RaisedD.skip (RaisedD.skip (by assumption))); (case rc => assumption); (case ra => assumption)) | (exfalso; omega) | w_report
theorem r1_no (w : World) (code x : Int) (t v : Tok) : Raises w 8 341 (¬ T1 code) [.int code t, .int x v] 56 (Str.ofString "no operation on one number") := by
  unfold Raises pr
  k_fill
  intro lo mean mg mb news dp un gd cn cs a ccd cl outer A₀ base h₀ L m s Q E hpre B F X N T hk hdp hun hraise
  have hnar : ¬ Narrow code := by unfold T1 at hpre; unfold Narrow; omega
  have q69 : ¬ ((code == 69) = true) := fun e => by
    have e2 := eq_of_beq e
    unfold T1 at hpre
    omega
  have q80 : ¬ ((code == 80) = true) := fun e => by
    have e2 := eq_of_beq e
    unfold T1 at hpre
    omega
  have q167 : ¬ ((code == 167) = true) := fun e => by
    have e2 := eq_of_beq e
    unfold T1 at hpre
    omega
  have q173 : ¬ ((code == 173) = true) := fun e => by
    have e2 := eq_of_beq e
    unfold T1 at hpre
    omega
  unfold T1 at hpre
  refine wpAny_call ?_
  k_dflt cell_enter
  k_steps
  all_goals (try k_data)
  all_goals first | (refine' hraise _ _ _ _ _ _ _ ?ra ?rb ?rc; (case rb => first | assumption | exact RaisedD.skip (by assumption) | exact RaisedD.skip (RaisedD.skip (by assumption))); (case rc => assumption); (case ra => assumption)) | (exfalso; omega) | w_report
end
section
section
variable {prog : Program} {w : World} {A₀ A : Around} {s : Shared} {base h₀ : Heap} {L a : Addr} {m : Str → Option Value} {cn : Str} {cs : Scope} {ccd : Value} {news : List (Addr × Obj)} {K : Frag} {p : Program} {loose : List Str} {mean : ExcName → Option Value} {mg mb : Str → Option Value}
    {R : Result → Shared → Prop} {name qual : Str} {params : Arguments} {body : List Stmt} {scope : Scope} {dV kV doc pm cdv ct oc : Value} {an od : Option Addr} {osl : Array (Option Value)} {f : Addr} {args : Args} {binds : List (Str × Value)}
/-- a def with cells of its own, called from a def that nothing of the text's called: the frames' slots may turn within -/
theorem code_defCS0 (B : Below A₀ base [] h₀) (F : Fr h₀ L s.heap m) (X₀ : K.In h₀) (N : News h₀ L s.heap news) (T : Top p loose mean mg mb h₀) (hA : A.frames = some [envOf cn cs L a ccd])
    (ho : K.lookup f = some ⟨oc, od, .func (fnOf name qual params body scope dV kV doc pm an cdv ct), osl⟩) (hcd : codeIn K cdv qual = true) (hroom : A.depth < recursionLimit)
    (hbind : BindsTo s (fnOf name qual params body scope dV kV doc pm an cdv ct) args binds) (hkind : (binds.all fun y => scope.names.lookup y.1 == some .local || scope.names.lookup y.1 == some .cell) = true)
    (hnd : ((cellsFrom 0 scope.names []).map (·.1)).Nodup)
    (h : ∀ g L' h₁ tk cells, Fr h₀ L g m → Fr g L' h₁ (bindL (envOfC qual scope L' f cdv).kindOf binds fun _ => none) → News g L' h₁ (cells ++ news) →
      CellsAre (bindC (envOfC qual scope L' f cdv).kindOf binds fun _ => none) (cellsFrom (L' + 1) scope.names []) cells → Below A base [envOf cn cs L a ccd] g → K.In g → Top p loose mean mg mb g → KtsDicts ([envOf cn cs L a ccd].filterMap (·.frame)) g → (∀ p ∈ news, p.1 < L') →
      wpAny (model prog w) (A.deeper (envOfC qual scope L' f cdv)) (execs body (envOfC qual scope L' f cdv))
        (fun fl s' => LeaveS0 ([envOf cn cs L a ccd].filterMap (·.frame)) h₀ L m g R (match fl with | .ret v => v | _ => .none) s')
        (fun e s' => wpAny (model prog w) (A.deeper (envOfC qual scope L' f cdv)) (leaving (envOfC qual scope L' f cdv) e) (fun _ s'' => R (.error e) s'') (fun e' s'' => R (.error e') s'') s')
        { s with heap := h₁, toks := tk })
    (hck : cs.kind = .function) (hco : scope.isCoroutine = false) (hgen : scope.isGenerator = false) (hk : scope.kind = .function) : codeAny (model prog w) A (.call (.ref f) args) R s := by
  have X := X₀.keeps F.keep
  obtain ⟨oL, es, ep, hLg, hLd, hN, hNs, st, B₂⟩ := kts_enter B F N hA hck
  refine codeAny_call_function (fd := fnOf name qual params body scope dV kV doc pm an cdv ct) hroom (X _ _ ho) rfl hco hgen rfl (codeRec_of X hcd) (hbind _ _ _ _ ?_)
  refine wpAny_newFunctionEnv_cells hk (kindsX hkind _) fun env' he s' x => ?_
  subst he
  refine ⟨(T.nolimit.keeps F.keep).keeps x.toInCall.keep, codeAny_func ?_⟩
  obtain ⟨h₁, tk, rfl, _⟩ := x.done
  have hk₁ := x.toInCall.keep
  obtain ⟨cells, NC, Y⟩ := Cl.news (h₀ := s.heap) (Nat.le_refl _) fun n c hm => ⟨x.cell n c (lookup_of_mem_nodup (cellsFrom_names scope.names 0 (s.heap.objs.size + 1) [] [] rfl ▸ hnd) hm), x.above n c hm⟩
  refine wpAny_mono (h _ s.heap.objs.size h₁ tk cells ⟨hN _ hLg, st, F.above⟩ ⟨x.toInCall.ns, fun b o e => hk₁ b o (of_hideAll _ e), Nat.le_of_eq (hideAll_size _ _)⟩ (fun p hp => ?_) Y B₂ (X₀.keeps st) (T.keeps st) (fun b hb => by
      rcases kts_mem hb with rfl | z
      · exact ⟨oL, es, ep, hLg, hLd⟩
      · simp at z) (fun p hp => Heap.lt_size (N p hp).1)) (fun fl s' hl => ?_) fun _ _ y => y
  · rcases List.mem_append.mp hp with hp | hp
    · refine ⟨(NC p hp).1, (NC p hp).2.1, ?_⟩
      cases q : (hideAll s.heap (news.map (·.1))).get? p.1 with
      | none => rfl
      | some o =>
        have := of_hideAll _ q
        rw [(NC p hp).2.2] at this
        cases this
    · exact ⟨hk₁ _ _ (N p hp).1, Nat.ne_of_lt (Heap.lt_size (N p hp).1), hideAll_none _ (List.mem_map_of_mem hp)⟩
  · obtain ⟨g', L', m', news', T', F', N', k⟩ := hl
    have nL₀ : h₀.get? L = none := kts_self F
    obtain ⟨sl, hs⟩ := T'.up hLg
    refine k ⟨hNs sl _ (F'.keep _ _ hs), fun b o e => F'.keep b o (T'.other b o (st b o e) (fun q => by
      rcases kts_mem q with z | z
      · rw [z, nL₀] at e
        cases e
      · simp at z)), F.above⟩ fun p hp => ⟨(N' p hp).1, fun q => ?_, ?_⟩
    · have := (N' p hp).2.2
      rw [q, hs] at this
      cases this
    · cases q : h₀.get? p.1 with
      | none => rfl
      | some o =>
        obtain ⟨sl', hs'⟩ := T'.up (st _ _ q)
        have := (N' p hp).2.2
        rw [hs'] at this
        cases this
/-- a def called from a def of any make, whose body may turn the frames' slots -/
theorem code_defSX {env : Env} {outer : List Env} {g₀ : Heap} (B : Below A₀ base outer h₀) (F : Fr h₀ L s.heap m) (X₀ : K.In h₀) (N : News h₀ L s.heap news) (T : Top p loose mean mg mb h₀) (XB : K.In base) (TB : Top p loose mean mg mb base) (D : KtsDicts (outer.filterMap (·.frame)) h₀)
    (T0 : KtsTurn (outer.filterMap (·.frame)) g₀ h₀) (hA : A.frames = some (env :: outer)) (hf : env.frame = some L) (hke : env.scope.kind = .function)
    (ho : K.lookup f = some ⟨oc, od, .func (fnOf name qual params body scope dV kV doc pm an cdv ct), osl⟩) (hcd : codeIn K cdv qual = true) (hroom : A.depth < recursionLimit)
    (hbind : BindsTo s (fnOf name qual params body scope dV kV doc pm an cdv ct) args binds) (hloc : ∀ y ∈ binds, scope.names.lookup y.1 = some .local)
    (h : ∀ g L' h₁, Fr h₀ L g m → Fr g L' h₁ (fun y => binds.reverse.lookup y) → News g L' h₁ news → Below A base (env :: outer) g → K.In g → Top p loose mean mg mb g → KtsDicts (L :: outer.filterMap (·.frame)) g →
      wpAny (model prog w) (A.deeper (envOf qual scope L' f cdv)) (execs body (envOf qual scope L' f cdv))
        (fun fl s' => LeaveS (L :: outer.filterMap (·.frame)) A₀ base outer K p loose mean mg mb g₀ h₀ L m g R (match fl with | .ret v => v | _ => .none) s')
        (fun e s' => wpAny (model prog w) (A.deeper (envOf qual scope L' f cdv)) (leaving (envOf qual scope L' f cdv) e) (fun _ s'' => R (.error e) s'') (fun e' s'' => R (.error e') s'') s')
        { s with heap := h₁, toks := s.toks + binds.length })
    (hco : scope.isCoroutine = false) (hgen : scope.isGenerator = false) (hk : scope.kind = .function)
    (hcell : ∀ x ∈ scope.names, x.2 ≠ .cell) : codeAny (model prog w) A (.call (.ref f) args) R s := by
  have X := X₀.keeps F.keep
  obtain ⟨FG, BG, st, lv⟩ := groundX (R := R) B F N hA hf hke
  obtain ⟨oL, es, ep, hLg, hLd, hLk, hLf⟩ := FG.ns
  have hN : ∀ (sl : Array (Option Value)) (h' : Heap), h'.get? L = some { oL with slots := sl } → Heap.Ns h' L m := fun sl h' e => ⟨_, es, ep, e, hLd, hLk, hLf⟩
  have hN0 : ∀ (h' : Heap), h'.get? L = some oL → Heap.Ns h' L m := fun h' e => ⟨_, es, ep, e, hLd, hLk, hLf⟩
  refine codeAny_call_def (fd := fnOf name qual params body scope dV kV doc pm an cdv ct) (body := body) (binds := binds) hroom (X _ _ ho) rfl (T.nolimit.keeps F.keep) (codeRec_of X hcd) rfl hbind hcell hloc (fun h₁ hns hk₁ => ?_) hco hgen hk
  refine wpAny_mono (h _ s.heap.objs.size h₁ FG ⟨hns, fun b o e => hk₁ b o (of_hideAll _ e), Nat.le_of_eq (hideAll_size _ _)⟩
    (fun p hp => ⟨hk₁ _ _ (N p hp).1, Nat.ne_of_lt (Heap.lt_size (N p hp).1), hideAll_none _ (List.mem_map_of_mem hp)⟩) BG (X₀.keeps st) (T.keeps st) (fun b hb => by
      rcases List.mem_cons.mp hb with rfl | hb
      · exact ⟨oL, es, ep, hLg, hLd⟩
      · obtain ⟨o, es', n', ho', hd'⟩ := D b hb
        exact ⟨o, es', n', st b o ho', hd'⟩)) (fun fl s' hl => ?_) fun _ _ y => y
  have nL₀ : h₀.get? L = none := kts_self F
  rcases hl with ⟨L', m', news', F', N', k⟩ | ⟨g', L', m', news', T', F', N', k⟩
  · refine k ⟨hN0 _ (F'.keep _ _ hLg), fun b o e => F'.keep b o (st b o e), F.above⟩ fun p hp => ⟨(N' p hp).1, fun q => ?_, ?_⟩
    · have := (N' p hp).2.2
      rw [q, hLg] at this
      cases this
    · cases q : h₀.get? p.1 with
      | none => rfl
      | some o =>
        have := (N' p hp).2.2
        rw [st _ _ q] at this
        cases this
  obtain ⟨sl, hs⟩ := T'.up hLg
  obtain ⟨T₁, S₁⟩ := kts_turn_at (h := s'.heap) (fs := outer.filterMap (·.frame)) (g := h₀)
    (fun b hb => by
      obtain ⟨_, o, ho', _⟩ := B.frames.mem hb
      exact ⟨o, ho'⟩)
    (fun b o e nmem => F'.keep b o (T'.other b o (st b o e) (fun q => by
      rcases List.mem_cons.mp q with z | z
      · rw [z, nL₀] at e
        cases e
      · exact nmem z)))
    (fun b o e hm => by
      obtain ⟨sl', hs'⟩ := T'.up (st b o e)
      exact ⟨sl', F'.keep _ _ hs'⟩)
  have B₃ : Below A₀ base outer (ktsHeap s'.heap (outer.filterMap (·.frame)) h₀) := ⟨B.stack, fun b o e => T₁.other b o (B.stays b o e) (fun hm => by
    rw [(B.frames.mem hm).1] at e
    cases e), B.frames.of_keeps fun b o e _ => by
    obtain ⟨sl', hs'⟩ := T₁.up e
    exact ⟨_, hs', rfl⟩⟩
  refine k _ (T0.trans T₁) ⟨hN sl _ (F'.keep _ _ hs), S₁, by rw [T₁.size]; exact F.above⟩ (fun p hp => ⟨(N' p hp).1, fun q => ?_, ?_⟩) B₃ (XB.keeps B₃.stays) (TB.keeps B₃.stays) (D.turn T₁)
  · have := (N' p hp).2.2
    rw [q, hs] at this
    cases this
  · refine T₁.none_ _ ?_
    cases q : h₀.get? p.1 with
    | none => rfl
    | some o =>
      obtain ⟨sl', hs'⟩ := T'.up (st _ _ q)
      have := (N' p hp).2.2
      rw [hs'] at this
      cases this
end
end
section
theorem top_offX14 : True := by
  w_top off
  k_with_none
  exact True.intro
/-- a call of a def that lies in the ledger led -/
abbrev LamSome (w : World) (k : Nat) (led : List (Addr × Obj)) (f : Addr) (vs : List Value) : Prop := ∀ (lo : List Str) (mean : ExcName → Option Value) (mg mb : Str → Option Value) (news : List (Addr × Obj)) (dp un : Nat) (gd : Option (List Code)) (cn : Str) (cs : Scope) (a : Addr) (ccd : Value) (cl : List (Str × Addr)) (outer : List Env) (A₀ : Around) (base h₀ : Heap) (L : Addr) (m : Str → Option Value) (s : Shared) (Q E : Value → Shared → Prop), (∀ p ∈ led, p ∈ news) → Below A₀ base outer h₀ → Fr h₀ L s.heap m → (K0 w.params).In h₀ → News h₀ L s.heap news → Top topProg lo mean mg mb h₀ → cs.kind = .function → dp + k < recursionLimit → un + 8 * k < cLine → (∀ (r : Int) (t : Tok) (h' : Heap) (tk' : Nat), Fr h₀ L h' m → News h₀ L h' news → Q (.int r t) { s with heap := h', toks := tk' }) → wpAny (model pr w) (ktrTop dp un gd cn cs L a ccd cl outer) (call (.ref f) vs) Q E s
abbrev LamRaises (w : World) (k : Nat) (led : List (Addr × Obj)) (f : Addr) (vs : List Value) (C : Addr) (x : Str) : Prop := ∀ (lo : List Str) (mean : ExcName → Option Value) (mg mb : Str → Option Value) (news : List (Addr × Obj)) (dp un : Nat) (gd : Option (List Code)) (cn : Str) (cs : Scope) (a : Addr) (ccd : Value) (cl : List (Str × Addr)) (outer : List Env) (A₀ : Around) (base h₀ : Heap) (L : Addr) (m : Str → Option Value) (s : Shared) (Q E : Value → Shared → Prop), (∀ p ∈ led, p ∈ news) → Below A₀ base outer h₀ → Fr h₀ L s.heap m → (K0 w.params).In h₀ → News h₀ L s.heap news → Top topProg lo mean mg mb h₀ → cs.kind = .function → dp + k < recursionLimit → un + 8 * k < cLine → (∀ (e d : Addr) (tk : Nat) (t : Tok) (g h' : Heap) (tk' : Nat), Fr h₀ L g m → RaisedD base g (envX cn cs L a ccd cl :: outer) e C d ((d, whyD w tk x t) :: news) h' → g.UpToSlots h' → E (.ref e) { s with heap := h', toks := tk' }) → wpAny (model pr w) (ktrTop dp un gd cn cs L a ccd cl outer) (call (.ref f) vs) Q E s
theorem fnat_led {h₀ h : Heap} {L f : Addr} {news led : List (Addr × Obj)} {fo : Obj} (N : News h₀ L h news) (hs : ∀ p ∈ led, p ∈ news) (hm : (f, fo) ∈ led) (hfo : ∃ oc od fd sl, fo = ⟨oc, od, .func fd, sl⟩) : FnAt f h := by
  obtain ⟨oc, od, fd, sl, rfl⟩ := hfo
  exact ⟨oc, od, fd, sl, (N _ (hs _ hm)).1⟩
theorem LamSome.use {w : World} {k : Nat} {led : List (Addr × Obj)} {f : Addr} {vs : List Value} {lo : List Str} {mean : ExcName → Option Value} {mg mb : Str → Option Value} {news : List (Addr × Obj)} {dp un : Nat} {gd : Option (List Code)} {cn : Str} {cs : Scope} {a : Addr} {ccd : Value} {cl : List (Str × Addr)} {outer : List Env} {A₀ : Around} {base h₀ : Heap} {L : Addr} {m : Str → Option Value} {s : Shared} {Q E : Value → Shared → Prop} (Cc : LamSome w k led f vs) (hs : ∀ p ∈ led, p ∈ news) (B : Below A₀ base outer h₀) (F : Fr h₀ L s.heap m) (X : (K0 w.params).In h₀) (N : News h₀ L s.heap news) (T : Top topProg lo mean mg mb h₀) (hk : cs.kind = .function) (hdd : dp + k < recursionLimit) (hu : un + 8 * k < cLine) (ret : (∀ (r : Int) (t : Tok) (h' : Heap) (tk' : Nat), Fr h₀ L h' m → News h₀ L h' news → Q (.int r t) { s with heap := h', toks := tk' })) : wpAny (model pr w) (ktrTop dp un gd cn cs L a ccd cl outer) (call (.ref f) vs) Q E s :=
  Cc lo mean mg mb news dp un gd cn cs a ccd cl outer A₀ base h₀ L m s Q E hs B F X N T hk hdd hu ret
theorem LamRaises.use {w : World} {k : Nat} {led : List (Addr × Obj)} {f : Addr} {vs : List Value} {C : Addr} {x : Str} {lo : List Str} {mean : ExcName → Option Value} {mg mb : Str → Option Value} {news : List (Addr × Obj)} {dp un : Nat} {gd : Option (List Code)} {cn : Str} {cs : Scope} {a : Addr} {ccd : Value} {cl : List (Str × Addr)} {outer : List Env} {A₀ : Around} {base h₀ : Heap} {L : Addr} {m : Str → Option Value} {s : Shared} {Q E : Value → Shared → Prop} (Cc : LamRaises w k led f vs C x) (hs : ∀ p ∈ led, p ∈ news) (B : Below A₀ base outer h₀) (F : Fr h₀ L s.heap m) (X : (K0 w.params).In h₀) (N : News h₀ L s.heap news) (T : Top topProg lo mean mg mb h₀) (hk : cs.kind = .function) (hdd : dp + k < recursionLimit) (hu : un + 8 * k < cLine) (ret : (∀ (e d : Addr) (tk : Nat) (t : Tok) (g h' : Heap) (tk' : Nat), Fr h₀ L g m → RaisedD base g (envX cn cs L a ccd cl :: outer) e C d ((d, whyD w tk x t) :: news) h' → g.UpToSlots h' → E (.ref e) { s with heap := h', toks := tk' })) : wpAny (model pr w) (ktrTop dp un gd cn cs L a ccd cl outer) (call (.ref f) vs) Q E s :=
  Cc lo mean mg mb news dp un gd cn cs a ccd cl outer A₀ base h₀ L m s Q E hs B F X N T hk hdd hu ret
theorem exm5656 (p : Params) : exmOne (K0 p) (.ref 56) (.ref 56) = some true := by kernel_rfl
theorem exm4444 (p : Params) : exmOne (K0 p) (.ref 44) (.ref 44) = some true := by kernel_rfl
theorem exm4456 (p : Params) : exmOne (K0 p) (.ref 44) (.ref 56) = some false := by kernel_rfl
theorem inst_of {h₀ h : Heap} {L e d C : Addr} {news : List (Addr × Obj)} {oe : Obj} {ws : Array Value} {dd : Obj} (N : News h₀ L h news) (he : (e, oe) ∈ news) (hd : (d, dd) ∈ news) (hc : oe.cls = .ref C) (ho : oe.dict = some d) (hf : oe.data = .fields ws) : InstAt h e oe C (some dd) := by
  refine ⟨(N _ he).1, hc, ?_, ?_⟩
  · unfold notCls
    rw [hf]
  · rw [ho]
    exact (N _ hd).1
theorem ne_tab {h₀ h : Heap} {L a b : Addr} {news : List (Addr × Obj)} {o o' : Obj} (N : News h₀ L h news) (ha : (a, o) ∈ news) (hb : (b, o') ∈ news) (hne : o.cls ≠ o'.cls) : a ≠ b := fun q => by
  have h1 := (N _ ha).1
  have h2 := (N _ hb).1
  dsimp only at h1 h2
  rw [q, h2] at h1
  cases h1
  exact hne rfl
theorem why_own {K : Frag} {C : Addr} {w : World} {tk : Nat} {x : Str} {t : Tok} (hh : hasDictIn K C = true) (ha : findIn K (.ref C) "why" = some none) : findObj K C (some (whyD w tk x t)) "why" = some (.value (.str x t)) :=
  findObj_own hh ha rfl (by unfold lookIn; simp [whyD, dictOf, Value.isStr])
local macro_rules | `(tactic| k_all) => `(tactic| with_reducible assumption)
theorem words_X14 : True := by
  k_with_none
  k_with "call ref" => (k_here; (with_reducible show wpAny _ _ (call (Value.ref 374) _) _ _ _); k_dflt (refine wpAny_call ?_; refine' code_defSX ?k1 ?k2 ?k3 ?k4 ?k5 ?xb ?tb ?D ?T0 ?kA ?kF ?kK ?k6 ?k7 ?k8 ?k9 ?kB ?_ ?c2 ?c3 ?c4 ?c5; (case kA => exact rfl); (case kF => exact rfl); (case kK => first | exact rfl | assumption); (case k1 => k_asm); (case k2 => k_asm); (case k3 => k_asm); (case k4 => k_asm); (case k5 => k_asm); (case xb => assumption); (case tb => assumption); (case D => assumption); (case T0 => first | assumption | exact KtsTurn.refl); (case k6 => k_is); (case k7 => k_is); (case k8 => k_room); (case k9 => exact BindsTo.of_eq rfl); (case c5 => decide); (case kB => exact locs rfl); (case c2 => exact rfl); (case c3 => exact rfl); (case c4 => exact rfl); k_whole; intro g' L' h' FG' F' N' B' X' T' D'; (try dsimp only); (try k_fold)); walk_say "HEARD")
  k_with "noteFrame ref" => (k_here; k_dflt (refine' look_D ?R ?K ?U ?_; (case R => assumption); (case K => assumption); (case U => assumption); intro h8 R8 U8; (try dsimp only)); walk_say "LOOKS")
  k_with "handleBy ref" => (k_here; k_dflt (first | (refine' hit_D ?R ?F ?K ?U ?XB ?TB ?D ?T0 ?T ?_ ?hk ?hlo; (case R => assumption); (case F => assumption); (case K => assumption); (case U => assumption); (case XB => assumption); (case TB => assumption); (case D => assumption); (case T0 => exact KtsTurn.refl); (case T => exact test_name (.inl (by k_is)) (by first | with_reducible exact exm5656 _ | with_reducible exact exm4444 _ | with_reducible exact exm4456 _) rfl rfl (by decide)); (case hk => rfl); (case hlo => rfl); intro h8 g8 oe8 ws8 tk8 hc8 ho8 hf8 T8 F8 N8 B8 X8 P8 D8; (try dsimp only)) | (refine' pass_D ?R ?F ?K ?U ?XB ?TB ?T ?_; (case R => assumption); (case F => assumption); (case K => assumption); (case U => assumption); (case XB => assumption); (case TB => assumption); (case T => exact test_name (.inl (by k_is)) (by first | with_reducible exact exm5656 _ | with_reducible exact exm4444 _ | with_reducible exact exm4456 _) rfl rfl (by decide)); intro h8 R8 U8; (try dsimp only))); walk_say "HANDLES")
  k_with "getAttr ref" => (k_here; (with_reducible show wpAny _ _ (getAttr (Value.ref _) (PySem.Str.ofString "why") _) _ _ _); k_dflt (refine' x_getattr ?X ?I ?ga ?gh ?fo ?sb ?hh ?_; (case I => exact inst_of (by k_asm) (.head _) (.tail _ (.head _)) (by assumption) (by assumption) (by assumption)); (case X => k_in); (case ga => k_is); (case gh => k_is); (case fo => exact why_own (by k_is) (by k_is)); (case sb => k_is); (case hh => k_handed)); (try dsimp only); walk_say "WHY")
  k_with "callWith ref" => (k_here; k_dflt (refine' callWith_F0 ?k1 ?_; (case k1 => exact fnat_led (by k_asm) (by assumption) (by assumption) (by assumption)); (try dsimp only [List.nil_append, List.cons_append])))
  k_with "call ref" => (k_here; k_dflt (refine' LamRaises.use ?C ?hs ?k1 ?k2 ?k3 ?k4 ?k5 ?kK ?kd ?ku ?_; (case C => assumption); (case hs => assumption); (case k1 => k_asm); (case k2 => k_asm); (case k3 => k_asm); (case k4 => k_asm); (case k5 => k_asm); (case kK => first | exact rfl | assumption); (case kd => k_room); (case ku => k_units); intro e9 d9 tk9 t9 g9 h9 tq9 F9 R9 U9; (try dsimp only)); walk_say "LAM RAISES")
  exact True.intro
theorem h_mis (w : World) (k : Nat) (led : List (Addr × Obj)) (f : Addr) (fo : Obj) (hfo : ∃ oc od fd sl, fo = ⟨oc, od, .func fd, sl⟩) (hfm : (f, fo) ∈ led) (x : Str) (hlam : LamRaises w k led f [] 56 x) : ∀ (lo : List Str) (mean : ExcName → Option Value) (mg mb : Str → Option Value) (news : List (Addr × Obj)) (dp un : Nat) (gd : Option (List Code)) (cn : Str) (cs : Scope) (a : Addr) (ccd : Value) (cl : List (Str × Addr)) (outer : List Env) (A₀ : Around) (base h₀ : Heap) (L : Addr) (m : Str → Option Value) (s : Shared) (Q E : Value → Shared → Prop) (g₀ : Heap), (∀ p ∈ led, p ∈ news) → Below A₀ base outer h₀ → Fr h₀ L s.heap m → (K0 w.params).In h₀ → News h₀ L s.heap news → Top topProg lo mean mg mb h₀ → (K0 w.params).In base → Top topProg lo mean mg mb base → KtsDicts (outer.filterMap (·.frame)) h₀ → KtsTurn (outer.filterMap (·.frame)) g₀ h₀ → cs.kind = .function → dp + (k + 2) < recursionLimit → un + 8 * (k + 2) < cLine →
    (∀ (D : Addr) (t1 t2 : Tok) (h' : Heap) (tk' : Nat) (h₀' : Heap), KtsTurn (outer.filterMap (·.frame)) g₀ h₀' → Fr h₀' L h' m → News h₀' L h' ((D, tupOf [.str (Str.ofString "misused") t1, .str x t2]) :: news) → Below A₀ base outer h₀' → (K0 w.params).In h₀' → Top topProg lo mean mg mb h₀' → KtsDicts (outer.filterMap (·.frame)) h₀' → Q (.ref D) { s with heap := h', toks := tk' }) →
      wpAny (model pr w) (ktrTop dp un gd cn cs L a ccd cl outer) (call (.ref 374) [.ref f]) Q E s := by
  unfold pr
  k_fill
  intro lo mean mg mb news dp un gd cn cs a ccd cl outer A₀ base h₀ L m s Q E g₀ hsub B F X N T XB TB D T0 hk hdp hun hret
  k_steps
  have dr : ∀ {g : Heap} {L : Addr} {h : Heap} {p1 p2 p3 : Addr × Obj} {r : List (Addr × Obj)}, News g L h (p1 :: p2 :: p3 :: r) → News g L h (p1 :: r) := fun N9 p hp => N9 p (by
    rcases List.mem_cons.mp hp with rfl | hp
    · exact .head _
    · exact .tail _ (.tail _ (.tail _ hp)))
  refine' hret _ _ _ _ _ _ ?a ?b ?c ?d ?e ?f ?g
  case c => exact dr (by with_reducible assumption)
  case a => assumption
  case b => assumption
  case d => assumption
  case e => assumption
  case f => assumption
  case g => assumption
theorem h_trap (w : World) (k : Nat) (led : List (Addr × Obj)) (f : Addr) (fo : Obj) (hfo : ∃ oc od fd sl, fo = ⟨oc, od, .func fd, sl⟩) (hfm : (f, fo) ∈ led) (x : Str) (hlam : LamRaises w k led f [] 44 x) : ∀ (lo : List Str) (mean : ExcName → Option Value) (mg mb : Str → Option Value) (news : List (Addr × Obj)) (dp un : Nat) (gd : Option (List Code)) (cn : Str) (cs : Scope) (a : Addr) (ccd : Value) (cl : List (Str × Addr)) (outer : List Env) (A₀ : Around) (base h₀ : Heap) (L : Addr) (m : Str → Option Value) (s : Shared) (Q E : Value → Shared → Prop) (g₀ : Heap), (∀ p ∈ led, p ∈ news) → Below A₀ base outer h₀ → Fr h₀ L s.heap m → (K0 w.params).In h₀ → News h₀ L s.heap news → Top topProg lo mean mg mb h₀ → (K0 w.params).In base → Top topProg lo mean mg mb base → KtsDicts (outer.filterMap (·.frame)) h₀ → KtsTurn (outer.filterMap (·.frame)) g₀ h₀ → cs.kind = .function → dp + (k + 2) < recursionLimit → un + 8 * (k + 2) < cLine →
    (∀ (D : Addr) (t1 t2 : Tok) (h' : Heap) (tk' : Nat) (h₀' : Heap), KtsTurn (outer.filterMap (·.frame)) g₀ h₀' → Fr h₀' L h' m → News h₀' L h' ((D, tupOf [.str (Str.ofString "trap") t1, .str x t2]) :: news) → Below A₀ base outer h₀' → (K0 w.params).In h₀' → Top topProg lo mean mg mb h₀' → KtsDicts (outer.filterMap (·.frame)) h₀' → Q (.ref D) { s with heap := h', toks := tk' }) →
      wpAny (model pr w) (ktrTop dp un gd cn cs L a ccd cl outer) (call (.ref 374) [.ref f]) Q E s := by
  unfold pr
  k_fill
  intro lo mean mg mb news dp un gd cn cs a ccd cl outer A₀ base h₀ L m s Q E g₀ hsub B F X N T XB TB D T0 hk hdp hun hret
  k_steps
  have dr : ∀ {g : Heap} {L : Addr} {h : Heap} {p1 p2 p3 : Addr × Obj} {r : List (Addr × Obj)}, News g L h (p1 :: p2 :: p3 :: r) → News g L h (p1 :: r) := fun N9 p hp => N9 p (by
    rcases List.mem_cons.mp hp with rfl | hp
    · exact .head _
    · exact .tail _ (.tail _ (.tail _ hp)))
  refine' hret _ _ _ _ _ _ ?a ?b ?c ?d ?e ?f ?g
  case c => exact dr (by with_reducible assumption)
  case a => assumption
  case b => assumption
  case d => assumption
  case e => assumption
  case f => assumption
  case g => assumption
end
section
theorem top_offX15 : True := by
  w_top off
  k_with_none
  exact True.intro
local macro_rules | `(tactic| k_all) => `(tactic| with_reducible assumption)
theorem words_X15 : True := by
  k_with_none
  k_with "call ref" => (k_here; (with_reducible show wpAny _ _ (call (Value.ref 374) _) _ _ _); k_dflt (refine wpAny_call ?_; refine' code_defSX ?k1 ?k2 ?k3 ?k4 ?k5 ?xb ?tb ?D ?T0 ?kA ?kF ?kK ?k6 ?k7 ?k8 ?k9 ?kB ?_ ?c2 ?c3 ?c4 ?c5; (case kA => exact rfl); (case kF => exact rfl); (case kK => first | exact rfl | assumption); (case k1 => k_asm); (case k2 => k_asm); (case k3 => k_asm); (case k4 => k_asm); (case k5 => k_asm); (case xb => assumption); (case tb => assumption); (case D => assumption); (case T0 => first | assumption | exact KtsTurn.refl); (case k6 => k_is); (case k7 => k_is); (case k8 => k_room); (case k9 => exact BindsTo.of_eq rfl); (case c5 => decide); (case kB => exact locs rfl); (case c2 => exact rfl); (case c3 => exact rfl); (case c4 => exact rfl); k_whole; intro g' L' h' FG' F' N' B' X' T' D'; (try dsimp only); (try k_fold)); walk_say "HEARD")
  k_with "noteFrame ref" => (k_here; k_dflt (refine' look_D ?R ?K ?U ?_; (case R => assumption); (case K => assumption); (case U => assumption); intro h8 R8 U8; (try dsimp only)); walk_say "LOOKS")
  k_with "handleBy ref" => (k_here; k_dflt (first | (refine' hit_D ?R ?F ?K ?U ?XB ?TB ?D ?T0 ?T ?_ ?hk ?hlo; (case R => assumption); (case F => assumption); (case K => assumption); (case U => assumption); (case XB => assumption); (case TB => assumption); (case D => assumption); (case T0 => exact KtsTurn.refl); (case T => exact test_name (.inl (by k_is)) (by first | with_reducible exact exm5656 _ | with_reducible exact exm4444 _ | with_reducible exact exm4456 _) rfl rfl (by decide)); (case hk => rfl); (case hlo => rfl); intro h8 g8 oe8 ws8 tk8 hc8 ho8 hf8 T8 F8 N8 B8 X8 P8 D8; (try dsimp only)) | (refine' pass_D ?R ?F ?K ?U ?XB ?TB ?T ?_; (case R => assumption); (case F => assumption); (case K => assumption); (case U => assumption); (case XB => assumption); (case TB => assumption); (case T => exact test_name (.inl (by k_is)) (by first | with_reducible exact exm5656 _ | with_reducible exact exm4444 _ | with_reducible exact exm4456 _) rfl rfl (by decide)); intro h8 R8 U8; (try dsimp only))); walk_say "HANDLES")
  k_with "getAttr ref" => (k_here; (with_reducible show wpAny _ _ (getAttr (Value.ref _) (PySem.Str.ofString "why") _) _ _ _); k_dflt (refine' x_getattr ?X ?I ?ga ?gh ?fo ?sb ?hh ?_; (case I => exact inst_of (by k_asm) (.head _) (.tail _ (.head _)) (by assumption) (by assumption) (by assumption)); (case X => k_in); (case ga => k_is); (case gh => k_is); (case fo => exact why_own (by k_is) (by k_is)); (case sb => k_is); (case hh => k_handed)); (try dsimp only); walk_say "WHY")
  k_with "callWith ref" => (k_here; k_dflt (refine' callWith_F0 ?k1 ?_; (case k1 => exact fnat_led (by k_asm) (by assumption) (by assumption) (by assumption)); (try dsimp only [List.nil_append, List.cons_append])))
  k_with "call ref" => (k_here; k_dflt (refine' LamSome.use ?C ?hs ?k1 ?k2 ?k3 ?k4 ?k5 ?kK ?kd ?ku ?_; (case C => assumption); (case hs => assumption); (case k1 => k_asm); (case k2 => k_asm); (case k3 => k_asm); (case k4 => k_asm); (case k5 => k_asm); (case kK => first | exact rfl | assumption); (case kd => k_room); (case ku => k_units); intro r9 t9 h9 tk9 F9 N9; (try dsimp only); (try k_fold)); walk_say "LAM")
  exact True.intro
theorem h_told (w : World) (k : Nat) (led : List (Addr × Obj)) (f : Addr) (fo : Obj) (hfo : ∃ oc od fd sl, fo = ⟨oc, od, .func fd, sl⟩) (hfm : (f, fo) ∈ led) (hlam : LamSome w k led f []) : ∀ (lo : List Str) (mean : ExcName → Option Value) (mg mb : Str → Option Value) (news : List (Addr × Obj)) (dp un : Nat) (gd : Option (List Code)) (cn : Str) (cs : Scope) (a : Addr) (ccd : Value) (cl : List (Str × Addr)) (outer : List Env) (A₀ : Around) (base h₀ : Heap) (L : Addr) (m : Str → Option Value) (s : Shared) (Q E : Value → Shared → Prop) (g₀ : Heap), (∀ p ∈ led, p ∈ news) → Below A₀ base outer h₀ → Fr h₀ L s.heap m → (K0 w.params).In h₀ → News h₀ L s.heap news → Top topProg lo mean mg mb h₀ → (K0 w.params).In base → Top topProg lo mean mg mb base → KtsDicts (outer.filterMap (·.frame)) h₀ → KtsTurn (outer.filterMap (·.frame)) g₀ h₀ → cs.kind = .function → dp + (k + 2) < recursionLimit → un + 8 * (k + 2) < cLine →
    (∀ (D : Addr) (t1 t2 : Tok) (h' : Heap) (tk' : Nat) (h₀' : Heap), KtsTurn (outer.filterMap (·.frame)) g₀ h₀' → Fr h₀' L h' m → News h₀' L h' ((D, tupOf [.str (Str.ofString "told") t1, .str (Str.ofString "") t2]) :: news) → Below A₀ base outer h₀' → (K0 w.params).In h₀' → Top topProg lo mean mg mb h₀' → KtsDicts (outer.filterMap (·.frame)) h₀' → Q (.ref D) { s with heap := h', toks := tk' }) →
      wpAny (model pr w) (ktrTop dp un gd cn cs L a ccd cl outer) (call (.ref 374) [.ref f]) Q E s := by
  unfold pr
  k_fill
  intro lo mean mg mb news dp un gd cn cs a ccd cl outer A₀ base h₀ L m s Q E g₀ hsub B F X N T XB TB D T0 hk hdp hun hret
  k_steps
  have dr : ∀ {g : Heap} {L : Addr} {h : Heap} {p1 p2 p3 : Addr × Obj} {r : List (Addr × Obj)}, News g L h (p1 :: p2 :: p3 :: r) → News g L h (p1 :: r) := fun N9 p hp => N9 p (by
    rcases List.mem_cons.mp hp with rfl | hp
    · exact .head _
    · exact .tail _ (.tail _ (.tail _ hp)))
  refine' hret _ _ _ _ _ _ ?a ?b ?c ?d ?e ?f ?g
  case c => with_reducible assumption
  case a => assumption
  case b => assumption
  case d => assumption
  case e => assumption
  case f => assumption
  case g => assumption
end
section
theorem top_offX16 : True := by
  w_top off
  k_with_none
  exact True.intro
theorem r1_all (w : World) (code x : Int) (t u : Tok) : SomeInt w 6 341 ((0 ≤ x ∧ x < 4294967296) ∧ T1 code) [.int code u, .int x t] := fun lo mean mg mb news dp un gd cn cs a ccd cl outer A₀ base h₀ L m s Q E hp => by
  obtain ⟨hx, hc⟩ := hp
  rcases t1_cases hc with h | h
  · simp only [List.mem_cons, List.not_mem_nil, or_false] at h
    rcases h with rfl | rfl | rfl | rfl | rfl | rfl | rfl | rfl | rfl | rfl
    · exact r1_69 w x t u lo mean mg mb news dp un gd cn cs a ccd cl outer A₀ base h₀ L m s Q E hx
    · exact r1_80 w x t u lo mean mg mb news dp un gd cn cs a ccd cl outer A₀ base h₀ L m s Q E hx
    · exact r1_103 w x t u lo mean mg mb news dp un gd cn cs a ccd cl outer A₀ base h₀ L m s Q E hx
    · exact r1_104 w x t u lo mean mg mb news dp un gd cn cs a ccd cl outer A₀ base h₀ L m s Q E hx
    · exact r1_105 w x t u lo mean mg mb news dp un gd cn cs a ccd cl outer A₀ base h₀ L m s Q E hx
    · exact r1_121 w x t u lo mean mg mb news dp un gd cn cs a ccd cl outer A₀ base h₀ L m s Q E hx
    · exact r1_122 w x t u lo mean mg mb news dp un gd cn cs a ccd cl outer A₀ base h₀ L m s Q E hx
    · exact r1_123 w x t u lo mean mg mb news dp un gd cn cs a ccd cl outer A₀ base h₀ L m s Q E hx
    · exact r1_167 w x t u lo mean mg mb news dp un gd cn cs a ccd cl outer A₀ base h₀ L m s Q E hx
    · exact r1_173 w x t u lo mean mg mb news dp un gd cn cs a ccd cl outer A₀ base h₀ L m s Q E hx
  · exact r1_nar w code x t u lo mean mg mb news dp un gd cn cs a ccd cl outer A₀ base h₀ L m s Q E ⟨hx, h⟩
theorem r2_all (w : World) (code x : Int) (t v u : Tok) : SomeInt w 6 348 ((0 ≤ x ∧ x < 4294967296) ∧ T2 code ∧ ¬ Dv code) [.int code t, .int x v, .int 0 u] := fun lo mean mg mb news dp un gd cn cs a ccd cl outer A₀ base h₀ L m s Q E hp => by
  obtain ⟨hx, hc, hd⟩ := hp
  rcases t2_cases hc hd with (h | h) | (h | h)
  · exact r2_rest32 w code x t v u lo mean mg mb news dp un gd cn cs a ccd cl outer A₀ base h₀ L m s Q E ⟨hx, h⟩
  · exact r2_rest64 w code x t v u lo mean mg mb news dp un gd cn cs a ccd cl outer A₀ base h₀ L m s Q E ⟨hx, h⟩
  · exact r2_cmp32 w code x t v u lo mean mg mb news dp un gd cn cs a ccd cl outer A₀ base h₀ L m s Q E ⟨hx, h⟩
  · exact r2_cmp64 w code x t v u lo mean mg mb news dp un gd cn cs a ccd cl outer A₀ base h₀ L m s Q E ⟨hx, h⟩
theorem r2_dv (w : World) (code x : Int) (t v u : Tok) : Raises w 8 348 (Dv code) [.int code t, .int x v, .int 0 u] 44 (Str.ofString "integer divide by zero") := fun lo mean mg mb news dp un gd cn cs a ccd cl outer A₀ base h₀ L m s Q E hd => by
  rcases dv_cases hd with h | h
  · exact r2_dv32 w code x t v u lo mean mg mb news dp un gd cn cs a ccd cl outer A₀ base h₀ L m s Q E h
  · exact r2_dv64 w code x t v u lo mean mg mb news dp un gd cn cs a ccd cl outer A₀ base h₀ L m s Q E h
abbrev Lam1 (q : Str) (pm : Value) (c' cc cx : Addr) (ctv : Value) : Obj :=
  kla_obj (Str.ofString "<lambda>") q { posonlyargs := [], args := [], vararg := none, kwonlyargs := [], kw_defaults := [], kwarg := none, defaults := [] } (Expr.Call (Expr.Name (Str.ofString "reckon1") ⟨206, 26, 206, 33⟩) [Expr.Name (Str.ofString "code") ⟨206, 34, 206, 38⟩, Expr.Name (Str.ofString "x") ⟨206, 40, 206, 41⟩] [] ⟨206, 26, 206, 42⟩) { kind := .function, names := [(Str.ofString "code", NameKind.free), (Str.ofString "x", NameKind.free), (Str.ofString "reckon1", NameKind.globalImplicit)], isGenerator := false, isCoroutine := false, more := [] } [(Str.ofString "x", cx), (Str.ofString "code", cc)] pm c' ctv
abbrev Lam2 (q : Str) (pm : Value) (c' cc cx : Addr) (ctv : Value) : Obj :=
  kla_obj (Str.ofString "<lambda>") q { posonlyargs := [], args := [], vararg := none, kwonlyargs := [], kw_defaults := [], kwarg := none, defaults := [] } (Expr.Call (Expr.Name (Str.ofString "reckon2") ⟨209, 30, 209, 37⟩) [Expr.Name (Str.ofString "code") ⟨209, 38, 209, 42⟩, Expr.Name (Str.ofString "x") ⟨209, 44, 209, 45⟩, Expr.Constant (Const.int 0) 0 ⟨209, 47, 209, 48⟩] [] ⟨209, 30, 209, 49⟩) { kind := .function, names := [(Str.ofString "code", NameKind.free), (Str.ofString "x", NameKind.free), (Str.ofString "reckon2", NameKind.globalImplicit)], isGenerator := false, isCoroutine := false, more := [] } [(Str.ofString "x", cx), (Str.ofString "code", cc)] pm c' ctv
local macro_rules | `(tactic| k_mem) => `(tactic| with_reducible assumption)
theorem words_X16 : True := by
  k_with_none
  k_with "eval Name" => (k_here; kc_free; k_dflt (refine' nameX_F ?N ?c ?m ?d ?_ ?a ?b; (case a => rfl); (case b => rfl); (case N => k_asm); (case c => rfl); (case m => with_reducible assumption); (case d => with_reducible assumption); k_whole))
  k_with "call ref" => (k_here; k_dflt (refine wpAny_call ?_; refine' kla_code ?k1 ?k2 ?k3 ?k4 ?k5 ?kA ?kF ?kK ?k6 ?k7 ?k8 ?k9 ?kB ?_ ?c2 ?c3 ?c4 ?c5; (case kA => exact rfl); (case kF => exact rfl); (case kK => assumption); (case k1 => k_asm); (case k2 => k_asm); (case k3 => k_asm); (case k4 => k_asm); (case k5 => k_asm); (case k6 => with_reducible assumption); (case k7 => exact codeRec_news (by k_asm) (by with_reducible assumption) (by assumption) (by assumption)); (case k8 => k_room); (case k9 => exact rfl); (case c5 => decide); (case kB => exact locs rfl); (case c2 => exact rfl); (case c3 => exact rfl); (case c4 => exact rfl); k_whole; intro g' L' h' FG' F' N' B' X' T'; (try dsimp only); (try k_lift B'); (try k_fold)); walk_say "LAMBDA")
  k_with "call ref" => (k_here; k_dflt ((first | (refine' SomeInt.use (r1_all _ _ _ _ _) ?kp ?k1 ?k2 ?k3 ?k4 ?k5 ?kK ?kd ?ku ?_; (case kp => exact ⟨by with_reducible assumption, by with_reducible assumption⟩)) | (refine' SomeInt.use (r2_all _ _ _ _ _ _) ?kp ?k1 ?k2 ?k3 ?k4 ?k5 ?kK ?kd ?ku ?_; (case kp => exact ⟨by with_reducible assumption, by with_reducible assumption⟩))); (case k1 => k_asm); (case k2 => k_asm); (case k3 => k_asm); (case k4 => k_asm); (case k5 => k_asm); (case kK => first | exact rfl | assumption); (case kd => k_room); (case ku => k_units); intro r9 t9 h9 tk9 F9 N9; (try dsimp only); (try k_fold)); walk_say "SOME")
  k_with "call ref" => (k_here; k_dflt ((first | (refine' Raises.use (r1_no _ _ _ _ _) ?kp ?k1 ?k2 ?k3 ?k4 ?k5 ?kK ?kd ?ku ?_; (case kp => with_reducible assumption)) | (refine' Raises.use (r2_no _ _ _ _ _ _) ?kp ?k1 ?k2 ?k3 ?k4 ?k5 ?kK ?kd ?ku ?_; (case kp => with_reducible assumption)) | (refine' Raises.use (r2_dv _ _ _ _ _ _) ?kp ?k1 ?k2 ?k3 ?k4 ?k5 ?kK ?kd ?ku ?_; (case kp => with_reducible assumption))); (case k1 => k_asm); (case k2 => k_asm); (case k3 => k_asm); (case k4 => k_asm); (case k5 => k_asm); (case kK => first | exact rfl | assumption); (case kd => k_room); (case ku => k_units); intro e9 d9 tk9 t9 g9 h9 tq9 F9 R9 U9; (try dsimp only); k_unfold; (try dsimp only); refine' leave_onD ?lK ?lF ?lR ?lU ?_; (case lK => assumption); (case lF => exact F9); (case lR => exact R9); (case lU => exact U9); intro h8 R8 U8; (try dsimp only)); walk_say "X PASSES")
  exact True.intro
theorem lam1_some (w : World) (code x : Int) (t u : Tok) (q : Str) (pm ctv : Value) (f c' cc cx : Addr) (oc o1 o2 : Obj) (vs : Array Value) (t' : Tok) (hoc : oc.data = .fields vs) (hq : vs[1]? = some (.str q t')) (h1 : o1.data = .cell (some (.int code t))) (h2 : o2.data = .cell (some (.int x u))) (hx : 0 ≤ x ∧ x < 4294967296) (hc : T1 code) : LamSome w 10 [(f, Lam1 q pm c' cc cx ctv), (c', oc), (cc, o1), (cx, o2)] f []  := by
  unfold LamSome pr
  k_fill
  intro lo mean mg mb news dp un gd cn cs a ccd cl outer A₀ base h₀ L m s Q E hsub B F X N T hk hdp hun hret
  have hm1 := hsub _ (.head _)
  have hm2 := hsub _ (.tail _ (.head _))
  have hm3 := hsub _ (.tail _ (.tail _ (.head _)))
  have hm4 := hsub _ (.tail _ (.tail _ (.tail _ (.head _))))
  k_steps
  all_goals first | (refine' hret _ _ _ _ ?ra ?rb; (case ra => assumption); (case rb => assumption)) | w_report
theorem lam1_no (w : World) (code x : Int) (t u : Tok) (q : Str) (pm ctv : Value) (f c' cc cx : Addr) (oc o1 o2 : Obj) (vs : Array Value) (t' : Tok) (hoc : oc.data = .fields vs) (hq : vs[1]? = some (.str q t')) (h1 : o1.data = .cell (some (.int code t))) (h2 : o2.data = .cell (some (.int x u))) (hc : ¬ T1 code) : LamRaises w 10 [(f, Lam1 q pm c' cc cx ctv), (c', oc), (cc, o1), (cx, o2)] f [] 56 (Str.ofString "no operation on one number") := by
  unfold LamRaises pr
  k_fill
  intro lo mean mg mb news dp un gd cn cs a ccd cl outer A₀ base h₀ L m s Q E hsub B F X N T hk hdp hun hret
  have hm1 := hsub _ (.head _)
  have hm2 := hsub _ (.tail _ (.head _))
  have hm3 := hsub _ (.tail _ (.tail _ (.head _)))
  have hm4 := hsub _ (.tail _ (.tail _ (.tail _ (.head _))))
  k_steps
  all_goals first | (refine' hret _ _ _ _ _ _ _ ?ra ?rb ?rc; (case rb => first | assumption | exact RaisedD.skip (by assumption) | exact RaisedD.skip (RaisedD.skip (by assumption))); (case rc => assumption); (case ra => assumption)) | w_report
theorem lam2_some (w : World) (code x : Int) (t u : Tok) (q : Str) (pm ctv : Value) (f c' cc cx : Addr) (oc o1 o2 : Obj) (vs : Array Value) (t' : Tok) (hoc : oc.data = .fields vs) (hq : vs[1]? = some (.str q t')) (h1 : o1.data = .cell (some (.int code t))) (h2 : o2.data = .cell (some (.int x u))) (hx : 0 ≤ x ∧ x < 4294967296) (hc : T2 code ∧ ¬ Dv code) : LamSome w 10 [(f, Lam2 q pm c' cc cx ctv), (c', oc), (cc, o1), (cx, o2)] f []  := by
  unfold LamSome pr
  k_fill
  intro lo mean mg mb news dp un gd cn cs a ccd cl outer A₀ base h₀ L m s Q E hsub B F X N T hk hdp hun hret
  have hm1 := hsub _ (.head _)
  have hm2 := hsub _ (.tail _ (.head _))
  have hm3 := hsub _ (.tail _ (.tail _ (.head _)))
  have hm4 := hsub _ (.tail _ (.tail _ (.tail _ (.head _))))
  k_steps
  all_goals first | (refine' hret _ _ _ _ ?ra ?rb; (case ra => assumption); (case rb => assumption)) | w_report
theorem lam2_no (w : World) (code x : Int) (t u : Tok) (q : Str) (pm ctv : Value) (f c' cc cx : Addr) (oc o1 o2 : Obj) (vs : Array Value) (t' : Tok) (hoc : oc.data = .fields vs) (hq : vs[1]? = some (.str q t')) (h1 : o1.data = .cell (some (.int code t))) (h2 : o2.data = .cell (some (.int x u))) (hc : ¬ T2 code) : LamRaises w 10 [(f, Lam2 q pm c' cc cx ctv), (c', oc), (cc, o1), (cx, o2)] f [] 56 (Str.ofString "no operation on two numbers") := by
  unfold LamRaises pr
  k_fill
  intro lo mean mg mb news dp un gd cn cs a ccd cl outer A₀ base h₀ L m s Q E hsub B F X N T hk hdp hun hret
  have hm1 := hsub _ (.head _)
  have hm2 := hsub _ (.tail _ (.head _))
  have hm3 := hsub _ (.tail _ (.tail _ (.head _)))
  have hm4 := hsub _ (.tail _ (.tail _ (.tail _ (.head _))))
  k_steps
  all_goals first | (refine' hret _ _ _ _ _ _ _ ?ra ?rb ?rc; (case rb => first | assumption | exact RaisedD.skip (by assumption) | exact RaisedD.skip (RaisedD.skip (by assumption))); (case rc => assumption); (case ra => assumption)) | w_report
theorem lam2_dv (w : World) (code x : Int) (t u : Tok) (q : Str) (pm ctv : Value) (f c' cc cx : Addr) (oc o1 o2 : Obj) (vs : Array Value) (t' : Tok) (hoc : oc.data = .fields vs) (hq : vs[1]? = some (.str q t')) (h1 : o1.data = .cell (some (.int code t))) (h2 : o2.data = .cell (some (.int x u))) (hc : Dv code) : LamRaises w 10 [(f, Lam2 q pm c' cc cx ctv), (c', oc), (cc, o1), (cx, o2)] f [] 44 (Str.ofString "integer divide by zero") := by
  unfold LamRaises pr
  k_fill
  intro lo mean mg mb news dp un gd cn cs a ccd cl outer A₀ base h₀ L m s Q E hsub B F X N T hk hdp hun hret
  have hm1 := hsub _ (.head _)
  have hm2 := hsub _ (.tail _ (.head _))
  have hm3 := hsub _ (.tail _ (.tail _ (.head _)))
  have hm4 := hsub _ (.tail _ (.tail _ (.tail _ (.head _))))
  k_steps
  all_goals first | (refine' hret _ _ _ _ _ _ _ ?ra ?rb ?rc; (case rb => first | assumption | exact RaisedD.skip (by assumption) | exact RaisedD.skip (RaisedD.skip (by assumption))); (case rc => assumption); (case ra => assumption)) | w_report
end
section
/-- what _law_heard hands back on a call: a new pair of strings, the ground may turn -/
abbrev Heard (w : World) (led : List (Addr × Obj)) (f : Addr) (x y : Str) : Prop := ∀ (lo : List Str) (mean : ExcName → Option Value) (mg mb : Str → Option Value) (news : List (Addr × Obj)) (dp un : Nat) (gd : Option (List Code)) (cn : Str) (cs : Scope) (a : Addr) (ccd : Value) (cl : List (Str × Addr)) (outer : List Env) (A₀ : Around) (base h₀ : Heap) (L : Addr) (m : Str → Option Value) (s : Shared) (Q E : Value → Shared → Prop) (g₀ : Heap), (∀ p ∈ led, p ∈ news) → Below A₀ base outer h₀ → Fr h₀ L s.heap m → (K0 w.params).In h₀ → News h₀ L s.heap news → Top topProg lo mean mg mb h₀ → (K0 w.params).In base → Top topProg lo mean mg mb base → KtsDicts (outer.filterMap (·.frame)) h₀ → KtsTurn (outer.filterMap (·.frame)) g₀ h₀ → cs.kind = .function → dp + (10 + 2) < recursionLimit → un + 8 * (10 + 2) < cLine →
    (∀ (D : Addr) (t1 t2 : Tok) (h' : Heap) (tk' : Nat) (h₀' : Heap), KtsTurn (outer.filterMap (·.frame)) g₀ h₀' → Fr h₀' L h' m → News h₀' L h' ((D, tupOf [.str x t1, .str y t2]) :: news) → Below A₀ base outer h₀' → (K0 w.params).In h₀' → Top topProg lo mean mg mb h₀' → KtsDicts (outer.filterMap (·.frame)) h₀' → Q (.ref D) { s with heap := h', toks := tk' }) →
      wpAny (model pr w) (ktrTop dp un gd cn cs L a ccd cl outer) (call (.ref 374) [.ref f]) Q E s
def a1 (code : Int) : Str := if T1 code then Str.ofString "told" else Str.ofString "misused"
def b1 (code : Int) : Str := if T1 code then Str.ofString "" else Str.ofString "no operation on one number"
def a2 (code : Int) : Str := if Dv code then Str.ofString "trap" else if T2 code then Str.ofString "told" else Str.ofString "misused"
def b2 (code : Int) : Str := if Dv code then Str.ofString "integer divide by zero" else if T2 code then Str.ofString "" else Str.ofString "no operation on two numbers"
theorem H1 (w : World) (code x : Int) (t u : Tok) (q : Str) (pm ctv : Value) (f c' cc cx : Addr) (oc o1 o2 : Obj) (vs : Array Value) (t' : Tok) (hoc : oc.data = .fields vs) (hq : vs[1]? = some (.str q t')) (h1 : o1.data = .cell (some (.int code t))) (h2 : o2.data = .cell (some (.int x u))) (hx : 0 ≤ x ∧ x < 4294967296) : Heard w [(f, Lam1 q pm c' cc cx ctv), (c', oc), (cc, o1), (cx, o2)] f (a1 code) (b1 code) := by
  by_cases hc : T1 code
  · rw [show a1 code = Str.ofString "told" from if_pos hc, show b1 code = Str.ofString "" from if_pos hc]
    exact h_told w 10 _ f _ ⟨_, _, _, _, rfl⟩ (.head _) (lam1_some w code x t u q pm ctv f c' cc cx oc o1 o2 vs t' hoc hq h1 h2 hx hc)
  · rw [show a1 code = Str.ofString "misused" from if_neg hc, show b1 code = Str.ofString "no operation on one number" from if_neg hc]
    exact h_mis w 10 _ f _ ⟨_, _, _, _, rfl⟩ (.head _) _ (lam1_no w code x t u q pm ctv f c' cc cx oc o1 o2 vs t' hoc hq h1 h2 hc)
theorem dv_t2 {code : Int} (h : Dv code) : T2 code := by unfold Dv at h; unfold T2; omega
theorem H2 (w : World) (code x : Int) (t u : Tok) (q : Str) (pm ctv : Value) (f c' cc cx : Addr) (oc o1 o2 : Obj) (vs : Array Value) (t' : Tok) (hoc : oc.data = .fields vs) (hq : vs[1]? = some (.str q t')) (h1 : o1.data = .cell (some (.int code t))) (h2 : o2.data = .cell (some (.int x u))) (hx : 0 ≤ x ∧ x < 4294967296) : Heard w [(f, Lam2 q pm c' cc cx ctv), (c', oc), (cc, o1), (cx, o2)] f (a2 code) (b2 code) := by
  by_cases hd : Dv code
  · rw [show a2 code = Str.ofString "trap" from if_pos hd, show b2 code = Str.ofString "integer divide by zero" from if_pos hd]
    exact h_trap w 10 _ f _ ⟨_, _, _, _, rfl⟩ (.head _) _ (lam2_dv w code x t u q pm ctv f c' cc cx oc o1 o2 vs t' hoc hq h1 h2 hd)
  · by_cases hc : T2 code
    · rw [show a2 code = Str.ofString "told" from (if_neg hd).trans (if_pos hc), show b2 code = Str.ofString "" from (if_neg hd).trans (if_pos hc)]
      exact h_told w 10 _ f _ ⟨_, _, _, _, rfl⟩ (.head _) (lam2_some w code x t u q pm ctv f c' cc cx oc o1 o2 vs t' hoc hq h1 h2 hx ⟨hc, hd⟩)
    · rw [show a2 code = Str.ofString "misused" from (if_neg hd).trans (if_neg hc), show b2 code = Str.ofString "no operation on two numbers" from (if_neg hd).trans (if_neg hc)]
      exact h_mis w 10 _ f _ ⟨_, _, _, _, rfl⟩ (.head _) _ (lam2_no w code x t u q pm ctv f c' cc cx oc o1 o2 vs t' hoc hq h1 h2 hc)
end
section
open PyProof.Rows.LCg
/-- the turns still to come of a comprehension over a list of triples with one test -/
noncomputable def R3 (prog : Program) (w : World) (A : Around) (h₀ : Heap) (L : Addr) (m : Str → Option Value) (env : Env) (c elt : PySem.Expr) (x y z : Str) (scope : Scope) (cl : List (Str × Addr)) (s : Shared) (S : List (Addr × Obj) → Prop)
    (Fin : List Value → List (Addr × Obj) → Prop) : List Value → List Value → List (Addr × Obj) → Prop
  | [], ys, news => Fin ys news
  | v :: r, ys, news => ∃ (t : Addr) (ot : Obj) (v₁ v₂ v₃ : Value) (nt : Nat), v = .ref t ∧ (t, ot) ∈ news ∧ ot.cls = .type "tuple" ∧ ot.data = .seq #[v₁, v₂, v₃] nt ∧
      ∀ I oI C oC D m₂ h tk (E' : Value → Shared → Prop), NsObj oC m₂ → m₂ x = some v₁ → m₂ y = some v₂ → m₂ z = some v₃ → Fr h₀ L h m → News h₀ L h ((I, oI) :: (C, oC) :: (D, lst ys) :: news) → Off3 I C D news → ((@Ne Nat I C) ∧ (@Ne Nat I D) ∧ (@Ne Nat C D)) →
        wpAny (model prog w) A (isTrue c (compEnvC scope cl C env) (eval c (compEnvC scope cl C env))) (fun ok s₃ => if ok = true then
          wpAny (model prog w) A (eval elt (compEnvC scope cl C env)) (CompEnd h₀ L m { s with heap := h, toks := tk } I oI C oC D (lst ys) S (fun u news' => R3 prog w A h₀ L m env c elt x y z scope cl s S Fin r (ys ++ [u]) news')) E' s₃
          else CompEnd h₀ L m { s with heap := h, toks := tk } I oI C oC D (lst ys) S (fun _ news' => R3 prog w A h₀ L m env c elt x y z scope cl s S Fin r ys news') .none s₃) E' { s with heap := h, toks := tk }
section
variable {prog : Program} {w : World} {A : Around} {E : Value → Shared → Prop} {s : Shared} {h₀ : Heap} {L : Addr} {m : Str → Option Value} {env : Env}
  {c elt iter : PySem.Expr} {x y z : Str} {px py pz tp : Pos} {kk : Nat} {scope : Scope} {cl : List (Str × Addr)} {pos : Pos} {S : List (Addr × Obj) → Prop} {Fin : List Value → List (Addr × Obj) → Prop}
theorem R3.nil {ys : List Value} {news : List (Addr × Obj)} (h : Fin ys news) : R3 prog w A h₀ L m env c elt x y z scope cl s S Fin [] ys news := h
theorem R3.cons {v : Value} {r ys : List Value} {news : List (Addr × Obj)} {t : Addr} {ot : Obj} {v₁ v₂ v₃ : Value} {nt : Nat} (e : v = .ref t) (hm : (t, ot) ∈ news) (hc : ot.cls = .type "tuple") (hd : ot.data = .seq #[v₁, v₂, v₃] nt)
    (h : ∀ I oI C oC D m₂ h tk (E' : Value → Shared → Prop), NsObj oC m₂ → m₂ x = some v₁ → m₂ y = some v₂ → m₂ z = some v₃ → Fr h₀ L h m → News h₀ L h ((I, oI) :: (C, oC) :: (D, lst ys) :: news) → Off3 I C D news → ((@Ne Nat I C) ∧ (@Ne Nat I D) ∧ (@Ne Nat C D)) →
        wpAny (model prog w) A (isTrue c (compEnvC scope cl C env) (eval c (compEnvC scope cl C env))) (fun ok s₃ => if ok = true then
          wpAny (model prog w) A (eval elt (compEnvC scope cl C env)) (CompEnd h₀ L m { s with heap := h, toks := tk } I oI C oC D (lst ys) S (fun u news' => R3 prog w A h₀ L m env c elt x y z scope cl s S Fin r (ys ++ [u]) news')) E' s₃
          else CompEnd h₀ L m { s with heap := h, toks := tk } I oI C oC D (lst ys) S (fun _ news' => R3 prog w A h₀ L m env c elt x y z scope cl s S Fin r ys news') .none s₃) E' { s with heap := h, toks := tk }) :
    R3 prog w A h₀ L m env c elt x y z scope cl s S Fin (v :: r) ys news := ⟨t, ot, v₁, v₂, v₃, nt, e, hm, hc, hd, h⟩

/-- a triple is unpacked into three locals -/
theorem assign3 {e : Env} {T : Addr} {a b d : Value} {mm : Str → Option Value} {Q : Unit → Shared → Prop} (hh : A.handled = none) (ht : IsTup s.heap T #[a, b, d])
    (hx : e.kindOf x = some .local) (hy : e.kindOf y = some .local) (hz : e.kindOf z = some .local) (hp : (e.scope.kind == .class || (e.scope.kind == .module && e.locals != e.globals)) = false) (hn : s.heap.Ns e.locals mm)
    (k : ∀ (h' : Heap) (tk : Nat), h'.Ns e.locals (fun n => if n = z then some d else if n = y then some b else if n = x then some a else mm n) → (∀ q o, q ≠ e.locals → s.heap.get? q = some o → h'.get? q = some o) → Q () { s with heap := h', toks := tk }) :
    wpAny (model prog w) A (assign (.Tuple [.Name x px, .Name y py, .Name z pz] kk tp) e (.ref T)) Q E s := by
  refine assign_Tuple_tuple hh ht rfl rfl fun h1 he => ?_
  have u1 : ∀ b o, s.heap.get? b = some o → h1.get? b = some o := fun b o q => he b o (Nat.ne_of_lt (Heap.lt_size q)) q
  refine assignInOrder_cons (wpAny_assign_Name (wpAny_storeName_local hx (hn.at' fun o q => u1 _ o q) (fun h2 n2 s2 => ?_) hp))
  refine assignInOrder_cons (wpAny_assign_Name (wpAny_storeName_local hy n2 (fun h3 n3 s3 => ?_) hp))
  refine assignInOrder_cons (wpAny_assign_Name (wpAny_storeName_local hz n3 (fun h4 n4 s4 => ?_) hp))
  exact assignInOrder_nil (k h4 _ n4 fun q o hq e => s4.extBut q o hq (s3.extBut q o hq (s2.extBut q o hq (u1 q o e))))

theorem comp3_block {s₂ : Shared} {I ax : Addr} {its : Array Value} {z₀ : Nat} {news : List (Addr × Obj)} {RR : Value → Addr → Result → Shared → Prop}
    (hh : A.handled = none) (W : Walks prog w A I [I, ax] [I] its.size (fun i v => its[i]? = some v) (fun i h => h.IsListIter I ax i ∧ h.IsList ax its)) (hsz : its.size ≤ sizeLine)
    (hcell : ∀ q ∈ scope.names, q.2 ≠ .cell) (hkind : scope.kind = .function) (hx : scope.names.lookup x = some .local) (hy : scope.names.lookup y = some .local) (hz : scope.names.lookup z = some .local) (hxy : x ≠ y) (hxz : x ≠ z) (hyz : y ≠ z)
    (hst : s₂.heap.IsListIter I ax 0 ∧ s₂.heap.IsList ax its) (haxI : ax < I) (hIs : I < s₂.heap.objs.size)
    (F : Fr h₀ L s₂.heap m) (N : News h₀ L s₂.heap news) (hIL : L ≠ I) (hI₀ : h₀.get? I = none) (off : ∀ p ∈ news, p.1 ≠ I) (hS : SrcAt h₀ ax its news)
    (R : R3 prog w A h₀ L m env c elt x y z scope cl s₂ (SrcAt h₀ ax its) Fin its.toList [] news)
    (hRR : ∀ D C h tk m' ys news', Fr h₀ L h m → News h₀ L h ((D, lst ys) :: news') → Off1 D news' → h.Ns C m' → h₀.get? C = none → h₀.get? D = none → C ≠ L → D ≠ L → C ≠ D → (∀ p ∈ news', p.1 ≠ C) → Fin ys news' → RR (.ref D) C (.ok .next) { s₂ with heap := h, toks := tk }) :
    wpAny (model prog w) A (newList []) (fun acc s₃ => wpAny (model prog w) A (newFunctionEnv scope env.globals cl [] env.qual none .none (some env)) (fun cenv s₄ =>
      codeAny (model prog w) A (.compStart (.ListComp elt [⟨.Tuple [.Name x px, .Name y py, .Name z pz] kk tp, iter, [c], 0⟩] scope pos) 0 (.ref I) acc { cenv with scope := relabel scope env }) (RR acc cenv.locals) s₄) E s₃) E s₂ := by
  refine wpAny_newObj_type (wpAny_newFunctionEnv hcell (by intro q hq; simp at hq) (fun h₁ hns₁ hsb₁ => ?_) hkind)
  dsimp only at hns₁ hsb₁ ⊢
  generalize hG : s₂.heap.push { cls := .type "list", dict := none, data := .seq ([] : List Value).toArray } = G at hns₁ hsb₁ ⊢
  generalize hDn : s₂.heap.objs.size = D at *
  generalize hCn : G.objs.size = C at *
  have hCD : C = D + 1 := by rw [← hCn, ← hG, Heap.size_push, hDn]
  have lo : ∀ {b o}, s₂.heap.get? b = some o → b < D := fun e => hDn ▸ Heap.lt_size e
  have up : ∀ b o, s₂.heap.get? b = some o → h₁.get? b = some o := fun b o e => hsb₁.extBut b o (by have := lo e; exact Nat.ne_of_lt (by rw [hCD]; exact Nat.lt_succ_of_lt this)) (Heap.get?_push_of_some _ (hG ▸ Heap.get?_push_of_some _ e))
  have nDC : D ≠ C := by rw [hCD]; exact Nat.ne_of_lt (Nat.lt_succ_self _)
  have hacc : h₁.get? D = some (lst []) := hsb₁.extBut _ _ nDC (Heap.get?_push_of_some _ (by rw [← hG, ← hDn]; exact Heap.get?_push_size _ rfl))
  have new₀ : ∀ b, D ≤ b → h₀.get? b = none := fun b hb => by
    cases e : h₀.get? b with
    | none => rfl
    | some o => exact absurd (lo (F.keep b o e)) (Nat.not_lt.mpr hb)
  have hD₀ := new₀ D (Nat.le_refl _)
  have hC₀ : h₀.get? C = none := new₀ C (by rw [hCD]; exact Nat.le_succ _)
  have hLD : L < D := hDn ▸ F.ns.lt
  have nDL : D ≠ L := Nat.ne_of_gt hLD
  have nCL : C ≠ L := by rw [hCD]; exact Nat.ne_of_gt (Nat.lt_succ_of_lt hLD)
  have nIC : I ≠ C := by rw [hCD]; exact Nat.ne_of_lt (Nat.lt_succ_of_lt hIs)
  have nID : I ≠ D := Nat.ne_of_lt hIs
  have nxC : ax ≠ C := by rw [hCD]; exact Nat.ne_of_lt (Nat.lt_succ_of_lt (Nat.lt_trans haxI hIs))
  have nxD : ax ≠ D := Nat.ne_of_lt (Nat.lt_trans haxI hIs)
  have off₀ : Off3 I C D news := Off3.of fun p hp => ⟨off p hp, by have := lo (N p hp).1; rw [hCD]; exact Nat.ne_of_lt (Nat.lt_succ_of_lt this), Nat.ne_of_lt (lo (N p hp).1)⟩
  have frm : ∀ i (g g' : Heap), (g.IsListIter I ax i ∧ g.IsList ax its) → (∀ b o, b ≠ C → b ≠ D → g.get? b = some o → g'.get? b = some o) → (g'.IsListIter I ax i ∧ g'.IsList ax its) := fun i g g' h k => W.frame _ _ _ h fun b hb o e => by
    rcases List.mem_cons.mp hb with rfl | hb
    · exact k _ o nIC nID e
    · rw [List.mem_singleton.mp hb] at e ⊢
      exact k _ o nxC nxD e
  have loop : ∀ s₃ : Shared, s₃ = { s₂ with heap := h₁, toks := s₂.toks + ([] : List (Str × Value)).length } →
      codeAny (model prog w) A (.compLoop (.ListComp elt [⟨.Tuple [.Name x px, .Name y py, .Name z pz] kk tp, iter, [c], 0⟩] scope pos) 0 (.ref I) (.ref D) (compEnvC scope cl C env)) (RR (.ref D) C) s₃ := by
    rintro s₃ rfl
    refine kct_loop
      (fun k s' => ∃ g tk i ys m' nw, s' = { s₂ with heap := g, toks := tk } ∧ i ≤ its.size ∧ k = its.size + 1 - i ∧ ys.length ≤ i ∧ (g.IsListIter I ax i ∧ g.IsList ax its) ∧ Fr h₀ L g m ∧ g.Ns C m' ∧ News h₀ L g ((D, lst ys) :: nw) ∧
        Off3 I C D nw ∧ SrcAt h₀ ax its nw ∧ R3 prog w A h₀ L m env c elt x y z scope cl s₂ (SrcAt h₀ ax its) Fin (its.toList.drop i) ys nw) ?_ (its.size + 1)
      ⟨h₁, _, 0, [], _, news, rfl, Nat.zero_le _, rfl, Nat.le_refl _, W.frame _ _ _ hst fun b _ o e => up b o e, F.keeps up, hns₁, fun p hp => ?_, off₀, hS, by rw [List.drop_zero]; exact R⟩
    · rintro k s' ⟨g, tk, i, ys, m', nw, rfl, hi, rfl, hyl, hit, F', hn', N', off', hS', R'⟩
      have o3 := off'.mem
      by_cases hlt : i < its.size
      · refine W.item i _ _ _ hlt hit fun v g₂ tk₂ hv hit₂ k₂ => ?_
        have hdr : its.toList.drop i = v :: its.toList.drop (i + 1) := by
          have hl : i < its.toList.length := by rw [Array.length_toList]; exact hlt
          rw [List.drop_eq_getElem_cons hl]
          congr 1
          have e1 := List.getElem?_eq_getElem hl
          rw [Array.getElem?_toList] at e1
          exact Option.some.inj (e1.symm.trans hv)
        rw [hdr] at R'
        obtain ⟨t, ot, v₁, v₂, v₃, nt, rfl, hmt, hct, hdt, R''⟩ := R'
        have N₂ : News h₀ L g₂ ((D, lst ys) :: nw) := news_but N' k₂ fun p hp => by
          rcases List.mem_cons.mp hp with rfl | hp
          · exact Ne.symm nID
          · exact (o3 p hp).1
        refine wpAny_letOwnedTupleGo_listiter hit₂.1 ?_
        refine assign3 (e := compEnvC scope cl C env) hh ⟨ot, (N₂ _ (List.mem_cons_of_mem _ hmt)).1, hct, nt, hdt⟩ (lookup_relabel_local hx) (lookup_relabel_local hy) (lookup_relabel_local hz) (by simp [compEnvC, relabel, hkind])
          (hn'.at' fun o e => k₂ _ o (by simpa using Ne.symm nIC) e) fun g₃ tk₃ n₃ k₃ => ?_
        obtain ⟨oC, heC, hoC⟩ := ns_obj n₃
        have it₃ : g₃.IsListIter I ax (i + 1) ∧ g₃.IsList ax its := frm _ _ _ hit₂ fun b o hb _ e => k₃ b o hb e
        obtain ⟨oI, heI, hoI⟩ := it₃.1
        have F₃ : Fr h₀ L g₃ m := ⟨F'.ns.at' fun o e => k₃ _ o (Ne.symm nCL) (k₂ _ o (by simpa using hIL) e), fun b o e => k₃ b o (fun q => by rw [show b = C from q, hC₀] at e; cases e) (k₂ b o (fun q => by rw [List.mem_singleton.mp q, hI₀] at e; cases e) (F'.keep b o e)), F'.above⟩
        have N₃ : News h₀ L g₃ ((I, oI) :: (C, oC) :: (D, lst ys) :: nw) := fun p hp => by
          rcases List.mem_cons.mp hp with rfl | hp
          · exact ⟨heI, Ne.symm hIL, hI₀⟩
          rcases List.mem_cons.mp hp with rfl | hp
          · exact ⟨heC, nCL, hC₀⟩
          refine ⟨k₃ _ _ ?_ (N₂ p hp).1, (N₂ p hp).2⟩
          rcases List.mem_cons.mp hp with rfl | hp
          · exact nDC
          · exact (o3 p hp).2.1
        have next : ∀ (ys' : List Value) (g₅ : Heap) (tk₅ : Nat) (nw₅ : List (Addr × Obj)), ys'.length ≤ i + 1 → Fr h₀ L g₅ m → News h₀ L g₅ ((I, oI) :: (C, oC) :: (D, lst ys') :: nw₅) → Off3 I C D nw₅ → SrcAt h₀ ax its nw₅ →
            R3 prog w A h₀ L m env c elt x y z scope cl s₂ (SrcAt h₀ ax its) Fin (its.toList.drop (i + 1)) ys' nw₅ →
            ∃ q, q < its.size + 1 - i ∧ (∃ g tk i ys m' nw, ({ s₂ with heap := g₅, toks := tk₅ } : Shared) = { s₂ with heap := g, toks := tk } ∧ i ≤ its.size ∧ q = its.size + 1 - i ∧ ys.length ≤ i ∧ (g.IsListIter I ax i ∧ g.IsList ax its) ∧ Fr h₀ L g m ∧ g.Ns C m' ∧ News h₀ L g ((D, lst ys) :: nw) ∧
        Off3 I C D nw ∧ SrcAt h₀ ax its nw ∧ R3 prog w A h₀ L m env c elt x y z scope cl s₂ (SrcAt h₀ ax its) Fin (its.toList.drop i) ys nw) := fun ys' g₅ tk₅ nw₅ hl F₅ N₅ off₅ hS₅ R₅ =>
          ⟨its.size + 1 - (i + 1), by omega, g₅, tk₅, i + 1, ys', _, nw₅, rfl, hlt, rfl, hl, ⟨⟨oI, (N₅ (I, oI) (.head _)).1, hoI⟩, hS₅.list F₅.keep fun p hp => N₅ p (.tail _ (.tail _ (.tail _ hp)))⟩, F₅, hoC.ns (N₅ (C, oC) (.tail _ (.head _))).1, fun p hp => N₅ p (.tail _ (.tail _ hp)), off₅, hS₅, R₅⟩
        refine wpAny_mono (R'' I oI C oC D _ g₃ _ _ hoC (by simp [hxy, hxz]) (by simp [hyz]) (by simp) F₃ N₃ off' ⟨nIC, nID, Ne.symm nDC⟩) (fun ok s₅ h₅ => ?_) fun _ _ e => e
        cases ok with
        | false =>
          simp only [Bool.false_eq_true, if_false] at h₅ ⊢
          obtain ⟨g₅, tk₅, nw₅, rfl, F₅, N₅, off₅, hS₅, R₅⟩ := h₅
          exact next ys g₅ tk₅ nw₅ (Nat.le_succ_of_le hyl) F₅ N₅ off₅ hS₅ R₅
        | true =>
          simp only [if_true] at h₅ ⊢
          refine wpAny_mono h₅ (fun u s₆ h₆ => ?_) fun _ _ e => e
          obtain ⟨g₅, tk₅, nw₅, rfl, F₅, N₅, off₅, hS₅, R₅⟩ := h₆
          have o5 := off₅.mem
          refine append_at (hsz := by show ys.toArray.size ≤ sizeLine; rw [List.size_toArray]; exact Nat.le_trans hyl (Nat.le_trans hi hsz)) (N₅ (D, lst ys) (.tail _ (.tail _ (.head _)))).1 fun g₆ k₆ hD₆ => ?_
          refine next (ys ++ [u]) g₆ _ nw₅ (by rw [List.length_append, List.length_singleton]; exact Nat.succ_le_succ hyl) (F₅.change k₆ nDL hD₀) (fun p hp => ?_) off₅ hS₅ R₅
          rcases List.mem_cons.mp hp with rfl | hp
          · exact ⟨k₆.extBut I oI nID (N₅ _ (.head _)).1, Ne.symm hIL, hI₀⟩
          rcases List.mem_cons.mp hp with rfl | hp
          · exact ⟨k₆.extBut C oC (Ne.symm nDC) (N₅ _ (.tail _ (.head _))).1, nCL, hC₀⟩
          rcases List.mem_cons.mp hp with rfl | hp
          · exact ⟨hD₆.trans (congrArg some (lst_snoc ys u)), nDL, hD₀⟩
          · have n5 := N₅ p (.tail _ (.tail _ (.tail _ hp)))
            exact ⟨k₆.extBut _ _ (o5 p hp).2.2 n5.1, n5.2⟩
      · have hin : i = its.size := Nat.le_antisymm hi (Nat.not_lt.mp hlt)
        subst hin
        rw [List.drop_eq_nil_of_le (Nat.le_of_eq Array.length_toList)] at R'
        refine W.done _ _ _ hit fun g₂ tk₂ k₂ => ?_
        exact hRR _ _ g₂ tk₂ _ ys nw (fr_but F' k₂ hIL hI₀) (news_but N' k₂ fun p hp => by
          rcases List.mem_cons.mp hp with rfl | hp
          · exact Ne.symm nID
          · exact (o3 p hp).1) off'.one (hn'.at' fun o e => k₂ _ o (by simpa using Ne.symm nIC) e) hC₀ hD₀ nCL nDL (Ne.symm nDC) (fun p hp => (o3 p hp).2.1) R'
    · rcases List.mem_cons.mp hp with rfl | hp
      · exact ⟨hacc, nDL, hD₀⟩
      · exact ⟨up _ _ (N p hp).1, (N p hp).2⟩
  exact codeAny_compStart_list (loop _ rfl) (W.self 0 _ _ _ (W.frame _ _ _ hst fun b _ o e => up b o e) (loop _ rfl))
/-- where the triples come from: a list that the call has made -/
def Src3 (prog : Program) (w : World) (A : Around) (h₀ : Heap) (L : Addr) (m : Str → Option Value) (env : Env) (c elt : PySem.Expr) (x y z : Str) (scope : Scope) (cl : List (Str × Addr)) (Fin : Shared → List Value → List (Addr × Obj) → Prop) (xv : Value) (s₁ : Shared) : Prop :=
  ∃ ax its news, xv = .ref ax ∧ A.handled = none ∧ Fr h₀ L s₁.heap m ∧ News h₀ L s₁.heap news ∧ SrcAt h₀ ax its news ∧ its.size ≤ sizeLine ∧
    ∀ g : Heap, R3 prog w A h₀ L m env c elt x y z scope cl { s₁ with heap := g } (SrcAt h₀ ax its) (Fin { s₁ with heap := g }) its.toList [] news
theorem Src3.ledger {Fin : Shared → List Value → List (Addr × Obj) → Prop} {ax : Addr} {vs : List Value} {k : Nat} {news : List (Addr × Obj)} {s₁ : Shared} (hh : A.handled = none) (F : Fr h₀ L s₁.heap m) (N : News h₀ L s₁.heap news)
    (hm : (ax, ({ cls := .type "list", data := .seq vs.toArray k } : Obj)) ∈ news) (hsz : vs.length ≤ sizeLine) (h : ∀ g : Heap, R3 prog w A h₀ L m env c elt x y z scope cl { s₁ with heap := g } (SrcAt h₀ ax vs.toArray) (Fin { s₁ with heap := g }) vs [] news) :
    Src3 prog w A h₀ L m env c elt x y z scope cl Fin (.ref ax) s₁ := ⟨ax, vs.toArray, news, rfl, hh, F, N, .inr ⟨_, hm, rfl, _, rfl⟩, hsz, h⟩
theorem comp3_assign {f : Str} {pf spos : Pos} {Q : Flow → Shared → Prop} (_F₀ : Fr h₀ L s.heap m) (hLe : env.locals = L)
    (hsw : swapsWith (.ListComp elt [⟨.Tuple [.Name x px, .Name y py, .Name z pz] kk tp, iter, [c], 0⟩] scope pos) (some (.Name f pf)) spos.line env = pure true)
    (hclos : closureFor scope env = pure cl) (hcell : ∀ q ∈ scope.names, q.2 ≠ .cell) (hkind : scope.kind = .function)
    (hnames : ∀ q ∈ scope.names, q.2 = .local → scope.names.lookup q.1 = some .local) (hx : scope.names.lookup x = some .local) (hy : scope.names.lookup y = some .local) (hz : scope.names.lookup z = some .local) (hxy : x ≠ y) (hxz : x ≠ z) (hyz : y ≠ z)
    (hf : env.kindOf f = some .local) (hp : (env.scope.kind == .class || (env.scope.kind == .module && env.locals != env.globals)) = false)
    (h : wpAny (model prog w) A (eval iter env) (Src3 prog w A h₀ L m env c elt x y z scope cl (fun s₂ => FinA h₀ L m s₂ f Q)) E s)
    (hs : ∀ x, foldedSetIterable iter env x = pure x := by intro _; rfl) :
    wpAny (model prog w) A (exec (.Assign [.Name f pf] (.ListComp elt [⟨.Tuple [.Name x px, .Name y py, .Name z pz] kk tp, iter, [c], 0⟩] scope pos) spos) env) Q E s := by
  subst hLe
  rw [exec_Assign_Name_used _ _ _ _ hsw]
  refine wpAny_bind (wpAny_standAt (wpAny_bind ?_))
  show wpAny _ A (do let _ ← comprehension (.ListComp elt [⟨.Tuple [.Name x px, .Name y py, .Name z pz] kk tp, iter, [c], 0⟩] scope pos) scope env _ (newList []) false (eval iter env) (some (assign (.Name f pf) env))) _ _ s
  refine wpAny_bind (wpAny_mono (wpAny_comprehension_free (use := some (assign (.Name f pf) env)) (Q := fun _ s' => Q .next s') rfl hs hclos hkind hnames
    (wpAny_mono h (fun xv s₁ h₁ => ?_) fun _ _ e => e)) (fun _ s' hq => wpAny_pure (wpAny_pure hq)) fun _ _ e => e)
  obtain ⟨ax, its, news, rfl, hh, F, N, hS, hsz, R⟩ := h₁
  have hl := hS.list F.keep N
  have hlt : ax < s₁.heap.objs.size := by obtain ⟨_, e, _⟩ := hl; exact Heap.lt_size e
  refine wpAny_pyIter_list hl ?_
  have up : ∀ b o, s₁.heap.get? b = some o → (s₁.heap.push { cls := .type "list_iterator", data := .fields #[.ref ax, .int 0 0] }).get? b = some o := fun b o e => Heap.get?_push_of_some _ e
  refine comp3_block (z₀ := 0) hh (Walks.list hh s₁.heap.objs.size ax (Nat.ne_of_lt hlt) its) hsz hcell hkind hx hy hz hxy hxz hyz ⟨⟨_, Heap.get?_push_size _ rfl, rfl, rfl⟩, hl.push _⟩ hlt (by show _ < (s₁.heap.push _).objs.size; rw [Heap.size_push]; exact Nat.lt_succ_self _)
    (F.keeps up) (N.grown up) (Nat.ne_of_lt F.ns.lt) (next_is_new F) (fun p hp => Nat.ne_of_lt (Heap.lt_size (N p hp).1)) hS (R _) ?_
  intro D C h' tk m' ys news' F' N' o1 hn hC₀ hD₀ hCL hDL hCD offC fin
  show wpAny _ A (assign (.Name f pf) env (.ref D)) _ _ _
  refine wpAny_assign_Name (wpAny_storeName_local hf F'.ns (fun h₂ hn₂ hs₂ => ?_) hp)
  have hL₀ : h₀.get? env.locals = none := Heap.get?_none_of_le F'.above
  have F₂ : Fr h₀ env.locals h₂ (fun q => if q = f then some (.ref D) else m q) := ⟨hn₂, fun b o e => hs₂.extBut b o (fun q => by rw [q, hL₀] at e; cases e) (F'.keep b o e), F'.above⟩
  refine ⟨m', hn.sameBut hs₂ hCL, fun h'' hs'' => fin D h'' _ (F₂.change hs'' hCL hC₀) (fun p hp => ?_) o1⟩
  refine ⟨hs''.extBut _ _ ?_ (hs₂.extBut _ _ (N' p hp).2.1 (N' p hp).1), (N' p hp).2⟩
  rcases List.mem_cons.mp hp with rfl | hp
  · exact Ne.symm hCD
  · exact offC p hp
end
end
section
theorem top_offX19 : True := by
  w_top off
  k_with_none
  exact True.intro
theorem words_X19 : True := by
  k_with_none
  k_with "exec Assign cons ListComp" => (k_here; k_dflt (refine comp3_assign (_F₀ := by k_asm) (by rfl) (by with_unfolding_all rfl) (by with_unfolding_all rfl) (by decide) (by rfl) (by decide) (by rfl) (by rfl) (by rfl) (by decide) (by decide) (by decide) (by rfl) (by rfl) ?_); walk_say "COMP3")
  k_with "Src3" => (k_here; k_dflt (refine Src3.ledger (by rfl) (by k_asm) (by k_asm) (by k_mem) (by first | size_fits | exact Nat.le_of_ble_eq_true rfl) ?_); intro g'; walk_say "SRC3")
  k_with "R3" => (first | (with_reducible refine R3.nil ?_) | (with_unfolding_all refine R3.cons rfl (by k_mem) rfl rfl ?_; intro I' oI' C' oC' D' m' h' tk' E' hC' hx' hy' hz' F' N' off' ne'))
  exact True.intro
theorem ce_sub {a b c d : Addr × Obj} {X : List (Addr × Obj)} : ∀ p ∈ b :: c :: d :: a :: X, p ∈ a :: b :: c :: d :: X := fun p hp => by
  simp only [List.mem_cons] at hp ⊢
  rcases hp with h | h | h | h | h
  · exact .inr (.inl h)
  · exact .inr (.inr (.inl h))
  · exact .inr (.inr (.inr (.inl h)))
  · exact .inl h
  · exact .inr (.inr (.inr (.inr h)))
theorem words_X191 : True := by
  k_with "CompEnd" => (k_dflt (first | refine LCg.CompEnd.intro (by with_reducible assumption) (by with_reducible assumption) _ (fun p hp => hp) (by with_reducible assumption) (by lcg_src) ?_ | refine LCg.CompEnd.intro (by with_reducible assumption) (by with_reducible assumption) (_ :: _) ce_sub ⟨⟨by k_ne, by k_ne, by k_ne⟩, by with_reducible assumption⟩ (by lcg_src) ?_))
  k_with "eval Name" => (k_here; (with_reducible show wpAny _ _ (eval (Expr.Name _ _) (compEnvC _ _ _ _)) _ _ _); k_dflt (refine LCgL.ld_own (by k_asm) (by k_mem) (by assumption) (by assumption) ?_))
  k_with "ite" => ((refine ite_neg (by with_reducible assumption) ?_); walk_say "OFF")
  k_with "compareOp NotEq ref ref" => (k_here; (with_reducible show wpAny _ _ (compareOp CmpOp.NotEq (Value.ref _) (Value.ref _)) _ _ _); k_dflt (refine ne_dataH (by ke_read) (by ke_read) (by ke_shaped) (by ke_shaped) (by k_units) ?_); ke_norm; walk_say "NE")
  exact True.intro
theorem item_led {prog : Program} {w : World} {A : Around} {E : Value → Shared → Prop} {s : Shared} {h₀ : Heap} {L : Addr} {news : List (Addr × Obj)} {value slice : PySem.Expr} {l : Addr} {vs : List Value} {n : Nat} {k : Int} {u : Tok} {v : Value} {Q : Value → Shared → Prop}
    (N : News h₀ L s.heap news) (hm : (l, ({ cls := .type "list", data := .seq vs.toArray n } : Obj)) ∈ news) (h0 : 0 ≤ k) (hhi : k < 2 ^ 63) (hx : vs[k.toNat]? = some v) (h : Q v s)
    (hs : subscripted slice false (.ref l) (.int k u) = operate [.ref l, .int k u] (getItem (.ref l) (.int k u)) := by with_unfolding_all rfl) :
    wpAny (model prog w) A (subscriptTail value slice (.ref l) (.int k u)) Q E s :=
  have hl : s.heap.IsList l vs.toArray := ⟨_, (N _ hm).1, rfl, _, rfl⟩
  tail_any hl.typeIs slot_list_getitem.lookup (wpAny_getItem_list hl h0 hhi (by simpa using hx) h) hs
theorem words_X192 : True := by
  k_with "subscriptTail Name Constant ref int" => (k_here; k_dflt (refine item_led (by k_asm) (by k_mem) (by decide) (by decide) rfl ?_); walk_say "ITEM")
  exact True.intro
theorem ln_none (w : World) (code : Int) (t : Tok) : Gives w 16 367 (¬ Narrow code) [.int code t] (fun _ => .none) := by
  unfold Gives pr
  k_fill
  intro lo mean mg mb news dp un gd cn cs a ccd cl outer A₀ base h₀ L m s Q E hpre B F X N T hk hdp hun hret
  unfold Narrow at hpre
  have nn : ∀ k : Int, (k = 172 ∨ (192 ≤ k ∧ k < 197)) → ¬ ((k == code) = true) := fun k hk e => by
    have e2 := eq_of_beq e
    omega
  have n1 := nn 172 (by decide)
  have n2 := nn 192 (by decide)
  have n3 := nn 193 (by decide)
  have n4 := nn 194 (by decide)
  have n5 := nn 195 (by decide)
  have n6 := nn 196 (by decide)
  refine wpAny_call ?_
  k_dflt (refine' code_defC ?k1 ?k2 ?k3 ?k4 ?k5 ?kA ?kF ?kK ?k6 ?k7 ?k8 ?k9 ?kB ?kD ?_ ?c2 ?c3 ?c4; (case kA => exact rfl); (case kF => exact rfl); (case kK => assumption); (case k1 => k_asm); (case k2 => k_asm); (case k3 => k_asm); (case k4 => k_asm); (case k5 => k_asm); (case k6 => k_is); (case k7 => k_is); (case k8 => k_room); (case k9 => exact BindsTo.of_eq rfl); (case kB => exact rfl); (case kD => decide +kernel); (case c2 => exact rfl); (case c3 => exact rfl); (case c4 => exact rfl); k_whole; intro g' L' h' tk' cells' FG' F' N' Y' B' X' T' l1; (try k_lt l1); k_cells Y'; (try simp only [List.cons_append, List.nil_append] at N'); (try dsimp only); (try k_fold))
  k_steps
  all_goals first | (refine' hret 0 _ _ ?e2 ?e3; (case e2 => k_asm); (case e3 => refine fun p hp => (by with_reducible assumption : News _ _ _ _) p ?_; (repeat (first | exact hp | apply List.Mem.tail)))) | w_report
theorem ln_172 (w : World) (t : Tok) : GivesPair w 16 367 True [.int 172 t] 32 64 := by
  unfold GivesPair pr
  k_fill
  intro lo mean mg mb news dp un gd cn cs a ccd cl outer A₀ base h₀ L m s Q E hpre B F X N T hk hdp hun hret
  refine wpAny_call ?_
  k_dflt (refine' code_defC ?k1 ?k2 ?k3 ?k4 ?k5 ?kA ?kF ?kK ?k6 ?k7 ?k8 ?k9 ?kB ?kD ?_ ?c2 ?c3 ?c4; (case kA => exact rfl); (case kF => exact rfl); (case kK => assumption); (case k1 => k_asm); (case k2 => k_asm); (case k3 => k_asm); (case k4 => k_asm); (case k5 => k_asm); (case k6 => k_is); (case k7 => k_is); (case k8 => k_room); (case k9 => exact BindsTo.of_eq rfl); (case kB => exact rfl); (case kD => decide +kernel); (case c2 => exact rfl); (case c3 => exact rfl); (case c4 => exact rfl); k_whole; intro g' L' h' tk' cells' FG' F' N' Y' B' X' T' l1; (try k_lt l1); k_cells Y'; (try simp only [List.cons_append, List.nil_append] at N'); (try dsimp only); (try k_fold))
  k_steps
  all_goals first | (refine' hret _ _ _ _ _ ?ra ?rb; (case ra => k_asm); (case rb => refine news_pick (by with_reducible assumption) ?hm ?ht; (case hm => repeat (first | exact List.Mem.head _ | apply List.Mem.tail)); (case ht => intro p hp; (repeat (first | exact hp | apply List.Mem.tail))))) | w_report
theorem ln_192 (w : World) (t : Tok) : GivesPair w 16 367 True [.int 192 t] 8 32 := by
  unfold GivesPair pr
  k_fill
  intro lo mean mg mb news dp un gd cn cs a ccd cl outer A₀ base h₀ L m s Q E hpre B F X N T hk hdp hun hret
  refine wpAny_call ?_
  k_dflt (refine' code_defC ?k1 ?k2 ?k3 ?k4 ?k5 ?kA ?kF ?kK ?k6 ?k7 ?k8 ?k9 ?kB ?kD ?_ ?c2 ?c3 ?c4; (case kA => exact rfl); (case kF => exact rfl); (case kK => assumption); (case k1 => k_asm); (case k2 => k_asm); (case k3 => k_asm); (case k4 => k_asm); (case k5 => k_asm); (case k6 => k_is); (case k7 => k_is); (case k8 => k_room); (case k9 => exact BindsTo.of_eq rfl); (case kB => exact rfl); (case kD => decide +kernel); (case c2 => exact rfl); (case c3 => exact rfl); (case c4 => exact rfl); k_whole; intro g' L' h' tk' cells' FG' F' N' Y' B' X' T' l1; (try k_lt l1); k_cells Y'; (try simp only [List.cons_append, List.nil_append] at N'); (try dsimp only); (try k_fold))
  k_steps
  all_goals first | (refine' hret _ _ _ _ _ ?ra ?rb; (case ra => k_asm); (case rb => refine news_pick (by with_reducible assumption) ?hm ?ht; (case hm => repeat (first | exact List.Mem.head _ | apply List.Mem.tail)); (case ht => intro p hp; (repeat (first | exact hp | apply List.Mem.tail))))) | w_report
theorem ln_193 (w : World) (t : Tok) : GivesPair w 16 367 True [.int 193 t] 16 32 := by
  unfold GivesPair pr
  k_fill
  intro lo mean mg mb news dp un gd cn cs a ccd cl outer A₀ base h₀ L m s Q E hpre B F X N T hk hdp hun hret
  refine wpAny_call ?_
  k_dflt (refine' code_defC ?k1 ?k2 ?k3 ?k4 ?k5 ?kA ?kF ?kK ?k6 ?k7 ?k8 ?k9 ?kB ?kD ?_ ?c2 ?c3 ?c4; (case kA => exact rfl); (case kF => exact rfl); (case kK => assumption); (case k1 => k_asm); (case k2 => k_asm); (case k3 => k_asm); (case k4 => k_asm); (case k5 => k_asm); (case k6 => k_is); (case k7 => k_is); (case k8 => k_room); (case k9 => exact BindsTo.of_eq rfl); (case kB => exact rfl); (case kD => decide +kernel); (case c2 => exact rfl); (case c3 => exact rfl); (case c4 => exact rfl); k_whole; intro g' L' h' tk' cells' FG' F' N' Y' B' X' T' l1; (try k_lt l1); k_cells Y'; (try simp only [List.cons_append, List.nil_append] at N'); (try dsimp only); (try k_fold))
  k_steps
  all_goals first | (refine' hret _ _ _ _ _ ?ra ?rb; (case ra => k_asm); (case rb => refine news_pick (by with_reducible assumption) ?hm ?ht; (case hm => repeat (first | exact List.Mem.head _ | apply List.Mem.tail)); (case ht => intro p hp; (repeat (first | exact hp | apply List.Mem.tail))))) | w_report
theorem ln_194 (w : World) (t : Tok) : GivesPair w 16 367 True [.int 194 t] 8 64 := by
  unfold GivesPair pr
  k_fill
  intro lo mean mg mb news dp un gd cn cs a ccd cl outer A₀ base h₀ L m s Q E hpre B F X N T hk hdp hun hret
  refine wpAny_call ?_
  k_dflt (refine' code_defC ?k1 ?k2 ?k3 ?k4 ?k5 ?kA ?kF ?kK ?k6 ?k7 ?k8 ?k9 ?kB ?kD ?_ ?c2 ?c3 ?c4; (case kA => exact rfl); (case kF => exact rfl); (case kK => assumption); (case k1 => k_asm); (case k2 => k_asm); (case k3 => k_asm); (case k4 => k_asm); (case k5 => k_asm); (case k6 => k_is); (case k7 => k_is); (case k8 => k_room); (case k9 => exact BindsTo.of_eq rfl); (case kB => exact rfl); (case kD => decide +kernel); (case c2 => exact rfl); (case c3 => exact rfl); (case c4 => exact rfl); k_whole; intro g' L' h' tk' cells' FG' F' N' Y' B' X' T' l1; (try k_lt l1); k_cells Y'; (try simp only [List.cons_append, List.nil_append] at N'); (try dsimp only); (try k_fold))
  k_steps
  all_goals first | (refine' hret _ _ _ _ _ ?ra ?rb; (case ra => k_asm); (case rb => refine news_pick (by with_reducible assumption) ?hm ?ht; (case hm => repeat (first | exact List.Mem.head _ | apply List.Mem.tail)); (case ht => intro p hp; (repeat (first | exact hp | apply List.Mem.tail))))) | w_report
theorem ln_195 (w : World) (t : Tok) : GivesPair w 16 367 True [.int 195 t] 16 64 := by
  unfold GivesPair pr
  k_fill
  intro lo mean mg mb news dp un gd cn cs a ccd cl outer A₀ base h₀ L m s Q E hpre B F X N T hk hdp hun hret
  refine wpAny_call ?_
  k_dflt (refine' code_defC ?k1 ?k2 ?k3 ?k4 ?k5 ?kA ?kF ?kK ?k6 ?k7 ?k8 ?k9 ?kB ?kD ?_ ?c2 ?c3 ?c4; (case kA => exact rfl); (case kF => exact rfl); (case kK => assumption); (case k1 => k_asm); (case k2 => k_asm); (case k3 => k_asm); (case k4 => k_asm); (case k5 => k_asm); (case k6 => k_is); (case k7 => k_is); (case k8 => k_room); (case k9 => exact BindsTo.of_eq rfl); (case kB => exact rfl); (case kD => decide +kernel); (case c2 => exact rfl); (case c3 => exact rfl); (case c4 => exact rfl); k_whole; intro g' L' h' tk' cells' FG' F' N' Y' B' X' T' l1; (try k_lt l1); k_cells Y'; (try simp only [List.cons_append, List.nil_append] at N'); (try dsimp only); (try k_fold))
  k_steps
  all_goals first | (refine' hret _ _ _ _ _ ?ra ?rb; (case ra => k_asm); (case rb => refine news_pick (by with_reducible assumption) ?hm ?ht; (case hm => repeat (first | exact List.Mem.head _ | apply List.Mem.tail)); (case ht => intro p hp; (repeat (first | exact hp | apply List.Mem.tail))))) | w_report
theorem ln_196 (w : World) (t : Tok) : GivesPair w 16 367 True [.int 196 t] 32 64 := by
  unfold GivesPair pr
  k_fill
  intro lo mean mg mb news dp un gd cn cs a ccd cl outer A₀ base h₀ L m s Q E hpre B F X N T hk hdp hun hret
  refine wpAny_call ?_
  k_dflt (refine' code_defC ?k1 ?k2 ?k3 ?k4 ?k5 ?kA ?kF ?kK ?k6 ?k7 ?k8 ?k9 ?kB ?kD ?_ ?c2 ?c3 ?c4; (case kA => exact rfl); (case kF => exact rfl); (case kK => assumption); (case k1 => k_asm); (case k2 => k_asm); (case k3 => k_asm); (case k4 => k_asm); (case k5 => k_asm); (case k6 => k_is); (case k7 => k_is); (case k8 => k_room); (case k9 => exact BindsTo.of_eq rfl); (case kB => exact rfl); (case kD => decide +kernel); (case c2 => exact rfl); (case c3 => exact rfl); (case c4 => exact rfl); k_whole; intro g' L' h' tk' cells' FG' F' N' Y' B' X' T' l1; (try k_lt l1); k_cells Y'; (try simp only [List.cons_append, List.nil_append] at N'); (try dsimp only); (try k_fold))
  k_steps
  all_goals first | (refine' hret _ _ _ _ _ ?ra ?rb; (case ra => k_asm); (case rb => refine news_pick (by with_reducible assumption) ?hm ?ht; (case hm => repeat (first | exact List.Mem.head _ | apply List.Mem.tail)); (case ht => intro p hp; (repeat (first | exact hp | apply List.Mem.tail))))) | w_report
theorem ln_all (w : World) (code : Int) (t : Tok) : GivesPair w 16 367 (Narrow code) [.int code t] (nN code) (nB code) := fun lo mean mg mb news dp un gd cn cs a ccd cl outer A₀ base h₀ L m s Q E hp => by
  have hcs : code = 172 ∨ code = 192 ∨ code = 193 ∨ code = 194 ∨ code = 195 ∨ code = 196 := by unfold Narrow at hp; omega
  rcases hcs with rfl | rfl | rfl | rfl | rfl | rfl
  · exact ln_172 w t lo mean mg mb news dp un gd cn cs a ccd cl outer A₀ base h₀ L m s Q E trivial
  · exact ln_192 w t lo mean mg mb news dp un gd cn cs a ccd cl outer A₀ base h₀ L m s Q E trivial
  · exact ln_193 w t lo mean mg mb news dp un gd cn cs a ccd cl outer A₀ base h₀ L m s Q E trivial
  · exact ln_194 w t lo mean mg mb news dp un gd cn cs a ccd cl outer A₀ base h₀ L m s Q E trivial
  · exact ln_195 w t lo mean mg mb news dp un gd cn cs a ccd cl outer A₀ base h₀ L m s Q E trivial
  · exact ln_196 w t lo mean mg mb news dp un gd cn cs a ccd cl outer A₀ base h₀ L m s Q E trivial
end
section
theorem top_offX20 : True := by
  w_top off
  k_with_none
  exact True.intro
theorem c_takes1 (w : World) (code : Int) (t : Tok) : Gives w 3 362 (T1 code) [.int code t] (fun t => .int 1 t) := fun lo mean mg mb news dp un gd cn cs a ccd cl outer A₀ base h₀ L m s Q E hp B F X N T hk hd hu ret =>
  c_takes w code t lo mean mg mb news dp un gd cn cs a ccd cl outer A₀ base h₀ L m s Q E trivial B F X N T hk hd hu (by rw [takes_T1 hp]; exact ret)
theorem c_takes2 (w : World) (code : Int) (t : Tok) : Gives w 3 362 (T2 code) [.int code t] (fun t => .int 2 t) := fun lo mean mg mb news dp un gd cn cs a ccd cl outer A₀ base h₀ L m s Q E hp B F X N T hk hd hu ret =>
  c_takes w code t lo mean mg mb news dp un gd cn cs a ccd cl outer A₀ base h₀ L m s Q E trivial B F X N T hk hd hu (by rw [takes_T2 hp]; exact ret)
theorem c_takes0 (w : World) (code : Int) (t : Tok) : Gives w 3 362 (¬ T1 code ∧ ¬ T2 code) [.int code t] (fun t => .int 0 t) := fun lo mean mg mb news dp un gd cn cs a ccd cl outer A₀ base h₀ L m s Q E hp B F X N T hk hd hu ret =>
  c_takes w code t lo mean mg mb news dp un gd cn cs a ccd cl outer A₀ base h₀ L m s Q E trivial B F X N T hk hd hu (by rw [takes_T0 hp.1 hp.2]; exact ret)
theorem a1_y {code : Int} (h : T1 code) : a1 code = Str.ofString "told" := if_pos h
theorem b1_y {code : Int} (h : T1 code) : b1 code = Str.ofString "" := if_pos h
theorem a1_n {code : Int} (h : ¬ T1 code) : a1 code = Str.ofString "misused" := if_neg h
theorem b1_n {code : Int} (h : ¬ T1 code) : b1 code = Str.ofString "no operation on one number" := if_neg h
theorem a2_d {code : Int} (h : Dv code) : a2 code = Str.ofString "trap" := if_pos h
theorem b2_d {code : Int} (h : Dv code) : b2 code = Str.ofString "integer divide by zero" := if_pos h
theorem a2_t {code : Int} (h : ¬ Dv code) (h2 : T2 code) : a2 code = Str.ofString "told" := (if_neg h).trans (if_pos h2)
theorem b2_t {code : Int} (h : ¬ Dv code) (h2 : T2 code) : b2 code = Str.ofString "" := (if_neg h).trans (if_pos h2)
theorem a2_n {code : Int} (h : ¬ Dv code) (h2 : ¬ T2 code) : a2 code = Str.ofString "misused" := (if_neg h).trans (if_neg h2)
theorem b2_n {code : Int} (h : ¬ Dv code) (h2 : ¬ T2 code) : b2 code = Str.ofString "no operation on two numbers" := (if_neg h).trans (if_neg h2)
theorem Heard.use {w : World} {led : List (Addr × Obj)} {f : Addr} {x y x' y' : Str} {lo : List Str} {mean : ExcName → Option Value} {mg mb : Str → Option Value} {news : List (Addr × Obj)} {dp un : Nat} {gd : Option (List Code)} {cn : Str} {cs : Scope} {a : Addr} {ccd : Value} {cl : List (Str × Addr)} {outer : List Env} {A₀ : Around} {base h₀ : Heap} {L : Addr} {m : Str → Option Value} {s : Shared} {Q E : Value → Shared → Prop} {g₀ : Heap} (Cc : Heard w led f x y) (hx : x = x') (hy : y = y') (hs : ∀ p ∈ led, p ∈ news) (B : Below A₀ base outer h₀) (F : Fr h₀ L s.heap m) (X : (K0 w.params).In h₀) (N : News h₀ L s.heap news) (T : Top topProg lo mean mg mb h₀) (XB : (K0 w.params).In base) (TB : Top topProg lo mean mg mb base) (D : KtsDicts (outer.filterMap (·.frame)) h₀) (T0 : KtsTurn (outer.filterMap (·.frame)) g₀ h₀) (hk : cs.kind = .function) (hdd : dp + (10 + 2) < recursionLimit) (hu : un + 8 * (10 + 2) < cLine)
    (ret : ∀ (D : Addr) (t1 t2 : Tok) (h' : Heap) (tk' : Nat) (h₀' : Heap), KtsTurn (outer.filterMap (·.frame)) g₀ h₀' → Fr h₀' L h' m → News h₀' L h' ((D, tupOf [.str x' t1, .str y' t2]) :: news) → Below A₀ base outer h₀' → (K0 w.params).In h₀' → Top topProg lo mean mg mb h₀' → KtsDicts (outer.filterMap (·.frame)) h₀' → Q (.ref D) { s with heap := h', toks := tk' }) :
      wpAny (model pr w) (ktrTop dp un gd cn cs L a ccd cl outer) (call (.ref 374) [.ref f]) Q E s := by
  subst hx hy
  exact Cc lo mean mg mb news dp un gd cn cs a ccd cl outer A₀ base h₀ L m s Q E g₀ hs B F X N T XB TB D T0 hk hdd hu ret
theorem in_dv {prog : Program} {w : World} {A : Around} {E : Value → Shared → Prop} {s : Shared} {Q : Value → Shared → Prop} {h₀ : Heap} {L D : Addr} {news : List (Addr × Obj)} {code : Int} {u t1 t2 t3 t4 t5 t6 t7 t8 : Tok} {b : Bool} (hb : b = decide (Dv code)) (N : News h₀ L s.heap news)
    (hm : (D, ({ cls := .type "tuple", data := .seq #[.int 109 t1, .int 110 t2, .int 111 t3, .int 112 t4, .int 127 t5, .int 128 t6, .int 129 t7, .int 130 t8] } : Obj)) ∈ news) (h : Q (.bool b) s) :
    wpAny (model prog w) A (compareOp .In (.int code u) (.ref D)) Q E s := by
  refine in_tuple_ints (ns := [109, 110, 111, 112, 127, 128, 129, 130]) ⟨_, (N _ hm).1, rfl, _, rfl⟩ (by repeat constructor) ?_
  have e : ([109, 110, 111, 112, 127, 128, 129, 130] : List Int).any (· == code) = b := by
    subst hb
    rw [Bool.eq_iff_iff]
    simp only [List.any_cons, List.any_nil, Bool.or_false, Bool.or_eq_true, beq_iff_eq, decide_eq_true_eq]
    unfold Dv
    omega
  rw [e]
  exact h
theorem sub4 {a b c d : Addr × Obj} {news : List (Addr × Obj)} (h1 : a ∈ news) (h2 : b ∈ news) (h3 : c ∈ news) (h4 : d ∈ news) : ∀ p ∈ [a, b, c, d], p ∈ news := fun p hp => by
  rcases List.mem_cons.mp hp with rfl | hp
  · exact h1
  rcases List.mem_cons.mp hp with rfl | hp
  · exact h2
  rcases List.mem_cons.mp hp with rfl | hp
  · exact h3
  rcases List.mem_cons.mp hp with rfl | hp
  · exact h4
  · simp at hp
abbrev lamQ : Str := (Str.ofString "_law_code_right" ++ (".<locals>." : Str)) ++ ("<lambda>" : Str)
/-- the two lambdas' codes as they lie behind their first making -/
def Full (oc1 oc2 : Obj) : Prop := (∃ vs t, oc1.data = .fields vs ∧ vs[1]? = some (.str lamQ t)) ∧ ∃ vs t, oc2.data = .fields vs ∧ vs[1]? = some (.str lamQ t)
abbrev tabF (c1 c2 : Addr) : Obj := tabObj #[rawInt 206, rawInt 18, .ref c1, rawInt 209, rawInt 22, .ref c2]
theorem news_sub {h₀ h : Heap} {L : Addr} {big small : List (Addr × Obj)} (N : News h₀ L h big) (hs : ∀ p ∈ small, p ∈ big) : News h₀ L h small := fun p hp => N p (hs p hp)
theorem full_of {q1 q2 : Str} {oc1 oc2 : Obj} {v1 v2 : Array Value} {t1 t2 : Tok} (h1 : oc1.data = .fields v1) (k1 : v1[1]? = some (.str q1 t1)) (e1 : q1 = lamQ) (h2 : oc2.data = .fields v2) (k2 : v2[1]? = some (.str q2 t2)) (e2 : q2 = lamQ) : Full oc1 oc2 := by
  subst e1 e2
  exact ⟨⟨_, _, h1, k1⟩, ⟨_, _, h2, k2⟩⟩
local macro_rules | `(tactic| k_all) => `(tactic| with_reducible assumption)
theorem words_X20 : True := by
  k_with_none
  k_with "callWith ref nil nil" => (k_here; k_dflt (refine' callWith_K ?k1 ?k2 ?_; (case k1 => k_asm); (case k2 => k_is); k_whole); walk_say "CW")
  k_with "call ref cons nil" => (k_here; k_dflt ((first | (refine' GivesPair.use (nar_all _ _ _) ?kp ?k1 ?k2 ?k3 ?k4 ?k5 ?kK ?kd ?ku ?_; (case kp => with_reducible assumption)) | (refine' GivesPair.use (ln_all _ _ _) ?kp ?k1 ?k2 ?k3 ?k4 ?k5 ?kK ?kd ?ku ?_; (case kp => with_reducible assumption))); (case k1 => k_asm); (case k2 => k_asm); (case k3 => k_asm); (case k4 => k_asm); (case k5 => k_asm); (case kK => first | exact rfl | assumption); (case kd => k_room); (case ku => k_units); intro D9 t8 t9 h9 tk9 F9 N9; (try dsimp only); (try k_fold)); walk_say "PAIR")
  k_with "call ref cons nil" => (k_here; k_dflt ((first | (refine' Gives.use (c_takes0 _ _ _) ?kp ?k1 ?k2 ?k3 ?k4 ?k5 ?kK ?kd ?ku ?_; (case kp => exact ⟨by with_reducible assumption, by with_reducible assumption⟩)) | (refine' Gives.use (c_takes1 _ _ _) ?kp ?k1 ?k2 ?k3 ?k4 ?k5 ?kK ?kd ?ku ?_; (case kp => with_reducible assumption)) | (refine' Gives.use (c_takes2 _ _ _) ?kp ?k1 ?k2 ?k3 ?k4 ?k5 ?kK ?kd ?ku ?_; (case kp => with_reducible assumption)) | (refine' Gives.use (c_is_unary _ _ _ false) ?kp ?k1 ?k2 ?k3 ?k4 ?k5 ?kK ?kd ?ku ?_; (case kp => exact (decide_eq_false (by with_reducible assumption)).symm)) | (refine' Gives.use (c_is_unary _ _ _ true) ?kp ?k1 ?k2 ?k3 ?k4 ?k5 ?kK ?kd ?ku ?_; (case kp => exact (decide_eq_true (by with_reducible assumption)).symm)) | (refine' Gives.use (c_is_binary _ _ _ false) ?kp ?k1 ?k2 ?k3 ?k4 ?k5 ?kK ?kd ?ku ?_; (case kp => exact (decide_eq_false (by with_reducible assumption)).symm)) | (refine' Gives.use (c_is_binary _ _ _ true) ?kp ?k1 ?k2 ?k3 ?k4 ?k5 ?kK ?kd ?ku ?_; (case kp => exact (decide_eq_true (by with_reducible assumption)).symm)) | (refine' Gives.use (c_can_trap _ _ _ false) ?kp ?k1 ?k2 ?k3 ?k4 ?k5 ?kK ?kd ?ku ?_; (case kp => exact (decide_eq_false (by with_reducible assumption)).symm)) | (refine' Gives.use (c_can_trap _ _ _ true) ?kp ?k1 ?k2 ?k3 ?k4 ?k5 ?kK ?kd ?ku ?_; (case kp => exact (decide_eq_true (by with_reducible assumption)).symm)) | (refine' Gives.use (c_narrow_none _ _ _) ?kp ?k1 ?k2 ?k3 ?k4 ?k5 ?kK ?kd ?ku ?_; (case kp => with_reducible assumption)) | (refine' Gives.use (ln_none _ _ _) ?kp ?k1 ?k2 ?k3 ?k4 ?k5 ?kK ?kd ?ku ?_; (case kp => with_reducible assumption))); (case k1 => k_asm); (case k2 => k_asm); (case k3 => k_asm); (case k4 => k_asm); (case k5 => k_asm); (case kK => first | exact rfl | assumption); (case kd => k_room); (case ku => k_units); intro t9 h9 tk9 F9 N9; (try dsimp only); (try k_fold)); walk_say "CONTRACT")
  k_with "call ref cons nil" => (k_here; (with_reducible show wpAny _ _ (call (Value.ref 374) _) _ _ _); k_dflt (first | (refine' Heard.use (H1 _ _ _ _ _ _ _ _ _ _ _ _ _ _ _ _ _ ?hoc ?hq ?h1 ?h2 ?hx) (a1_y (by with_reducible assumption)) (b1_y (by with_reducible assumption)) (sub4 ?m1 ?m2 ?m3 ?m4) ?k1 ?k2 ?k3 ?k4 ?k5 ?xb ?tb ?D ?T0 ?kK ?kd ?ku ?_; (case k1 => k_asm); (case k4 => k_asm); (case m1 => k_mem); (case m2 => k_mem); (case m3 => k_mem); (case m4 => k_mem); (case hoc => assumption); (case hq => assumption); (case h1 => assumption); (case h2 => assumption); (case hx => assumption); (case xb => assumption); (case tb => assumption); (case D => assumption); (case T0 => first | assumption | exact KtsTurn.refl); (case k2 => k_asm); (case k3 => k_asm); (case k5 => k_asm); (case kK => first | exact rfl | assumption); (case kd => k_room); (case ku => k_units); intro D8 t8 t9 h9 tk9 g9 T9 F9 N9 B9 X9 P9 D9; (try (have n1 := ne_tab (b := 376) N9 (List.Mem.head _) (by k_mem) (by simp))); (try dsimp only); (try k_fold)) | (refine' Heard.use (H1 _ _ _ _ _ _ _ _ _ _ _ _ _ _ _ _ _ ?hoc ?hq ?h1 ?h2 ?hx) (a1_n (by with_reducible assumption)) (b1_n (by with_reducible assumption)) (sub4 ?m1 ?m2 ?m3 ?m4) ?k1 ?k2 ?k3 ?k4 ?k5 ?xb ?tb ?D ?T0 ?kK ?kd ?ku ?_; (case k1 => k_asm); (case k4 => k_asm); (case m1 => k_mem); (case m2 => k_mem); (case m3 => k_mem); (case m4 => k_mem); (case hoc => assumption); (case hq => assumption); (case h1 => assumption); (case h2 => assumption); (case hx => assumption); (case xb => assumption); (case tb => assumption); (case D => assumption); (case T0 => first | assumption | exact KtsTurn.refl); (case k2 => k_asm); (case k3 => k_asm); (case k5 => k_asm); (case kK => first | exact rfl | assumption); (case kd => k_room); (case ku => k_units); intro D8 t8 t9 h9 tk9 g9 T9 F9 N9 B9 X9 P9 D9; (try (have n1 := ne_tab (b := 376) N9 (List.Mem.head _) (by k_mem) (by simp))); (try dsimp only); (try k_fold)) | (refine' Heard.use (H2 _ _ _ _ _ _ _ _ _ _ _ _ _ _ _ _ _ ?hoc ?hq ?h1 ?h2 ?hx) (a2_d (by with_reducible assumption)) (b2_d (by with_reducible assumption)) (sub4 ?m1 ?m2 ?m3 ?m4) ?k1 ?k2 ?k3 ?k4 ?k5 ?xb ?tb ?D ?T0 ?kK ?kd ?ku ?_; (case k1 => k_asm); (case k4 => k_asm); (case m1 => k_mem); (case m2 => k_mem); (case m3 => k_mem); (case m4 => k_mem); (case hoc => assumption); (case hq => assumption); (case h1 => assumption); (case h2 => assumption); (case hx => assumption); (case xb => assumption); (case tb => assumption); (case D => assumption); (case T0 => first | assumption | exact KtsTurn.refl); (case k2 => k_asm); (case k3 => k_asm); (case k5 => k_asm); (case kK => first | exact rfl | assumption); (case kd => k_room); (case ku => k_units); intro D8 t8 t9 h9 tk9 g9 T9 F9 N9 B9 X9 P9 D9; (try (have n1 := ne_tab (b := 376) N9 (List.Mem.head _) (by k_mem) (by simp))); (try dsimp only); (try k_fold)) | (refine' Heard.use (H2 _ _ _ _ _ _ _ _ _ _ _ _ _ _ _ _ _ ?hoc ?hq ?h1 ?h2 ?hx) (a2_t (by with_reducible assumption) (by with_reducible assumption)) (b2_t (by with_reducible assumption) (by with_reducible assumption)) (sub4 ?m1 ?m2 ?m3 ?m4) ?k1 ?k2 ?k3 ?k4 ?k5 ?xb ?tb ?D ?T0 ?kK ?kd ?ku ?_; (case k1 => k_asm); (case k4 => k_asm); (case m1 => k_mem); (case m2 => k_mem); (case m3 => k_mem); (case m4 => k_mem); (case hoc => assumption); (case hq => assumption); (case h1 => assumption); (case h2 => assumption); (case hx => assumption); (case xb => assumption); (case tb => assumption); (case D => assumption); (case T0 => first | assumption | exact KtsTurn.refl); (case k2 => k_asm); (case k3 => k_asm); (case k5 => k_asm); (case kK => first | exact rfl | assumption); (case kd => k_room); (case ku => k_units); intro D8 t8 t9 h9 tk9 g9 T9 F9 N9 B9 X9 P9 D9; (try (have n1 := ne_tab (b := 376) N9 (List.Mem.head _) (by k_mem) (by simp))); (try dsimp only); (try k_fold)) | (refine' Heard.use (H2 _ _ _ _ _ _ _ _ _ _ _ _ _ _ _ _ _ ?hoc ?hq ?h1 ?h2 ?hx) (a2_n (by with_reducible assumption) (by with_reducible assumption)) (b2_n (by with_reducible assumption) (by with_reducible assumption)) (sub4 ?m1 ?m2 ?m3 ?m4) ?k1 ?k2 ?k3 ?k4 ?k5 ?xb ?tb ?D ?T0 ?kK ?kd ?ku ?_; (case k1 => k_asm); (case k4 => k_asm); (case m1 => k_mem); (case m2 => k_mem); (case m3 => k_mem); (case m4 => k_mem); (case hoc => assumption); (case hq => assumption); (case h1 => assumption); (case h2 => assumption); (case hx => assumption); (case xb => assumption); (case tb => assumption); (case D => assumption); (case T0 => first | assumption | exact KtsTurn.refl); (case k2 => k_asm); (case k3 => k_asm); (case k5 => k_asm); (case kK => first | exact rfl | assumption); (case kd => k_room); (case ku => k_units); intro D8 t8 t9 h9 tk9 g9 T9 F9 N9 B9 X9 P9 D9; (try (have n1 := ne_tab (b := 376) N9 (List.Mem.head _) (by k_mem) (by simp))); (try dsimp only); (try k_fold))); walk_say "HEARD")
  k_with "compareOp NotEq ref ref" => (k_here; k_dflt (refine ne_dataH (by ke_read) (by ke_read) (by ke_shaped) (by ke_shaped) (by k_units) ?_); ke_norm; walk_say "NE")
  k_with "compareOp Eq ref ref" => (k_here; k_dflt (refine eq_dataH (by ke_read) (by ke_read) (by ke_shaped) (by ke_shaped) (by k_units) ?_); ke_norm; walk_say "EQ")
  k_with "compareOp In int ref" => (k_here; k_dflt (refine in_dv (by first | exact (decide_eq_true (by with_reducible assumption)).symm | exact (decide_eq_false (by with_reducible assumption)).symm) (by k_asm) (by k_mem) ?_); walk_say "IN")
  k_with "eval Lambda" => (k_here; kn_here; k_dflt (refine' kla_eval ?d0 ?_; (case d0 => exact rfl)); (k_dflt (refine' kla_nest ?F ?N ?T ?C ?cd ?U ?t ?n ?cl ?_; (case F => k_asm); (case N => k_asm); (case T => k_asm); (case cd => exact rfl); (case C => kn_code); (case U => k_updF); (case t => kn_triples); (case n => kn_among); (case cl => exact rfl); k_whole)); intro f' c' oc' vs' t' ct' h' tk' F' N' d1' d2' l1 l2; (try dsimp only at N'); (try k_lt l1); (try k_lt2 l2); walk_say "NEST")
  k_with "eval Lambda" => (k_here; kn_here; k_dflt (refine' kla_eval ?d0 ?_; (case d0 => exact rfl)); (k_dflt (refine' kla_hit ?F ?N ?T ?C ?cd ?mem ?t ?n ?cl ?_; (case F => k_asm); (case N => k_asm); (case T => k_asm); (case cd => exact rfl); (case C => kn_code); (case mem => k_mem); (case t => kn_triples); (case n => kn_hit); (case cl => exact rfl); k_whole)); intro f' ct' h' tk' F' N' l1; (try dsimp only at N'); (try k_lt l1); walk_say "HIT")
  k_with "ite" => (first | (with_reducible refine ite_ff ?_) | (with_reducible refine ite_tt ?_) | (refine ite_neg (by decide) ?_) | (refine ite_pos (by decide) ?_))
  exact True.intro
theorem cr_T0_e (w : World) (code x : Int) (t u : Tok) : ∀ (lo : List Str) (mean : ExcName → Option Value) (mg mb : Str → Option Value) (news : List (Addr × Obj)) (dp un : Nat) (gd : Option (List Code)) (cn : Str) (cs : Scope) (a : Addr) (ccd : Value) (A₀ : Around) (base h₀ : Heap) (L : Addr) (m : Str → Option Value) (s : Shared) (Q E : Value → Shared → Prop),
    (¬ T1 code ∧ ¬ T2 code ∧ ¬ Dv code ∧ ¬ Narrow code) → 0 ≤ x ∧ x < 4294967296 → Below A₀ base [] h₀ → Fr h₀ L s.heap m → (K0 w.params).In h₀ → News h₀ L s.heap ((376, tabObj #[]) :: news) → Top topProg lo mean mg mb h₀ → CodeHd base 380 376 → (∀ p ∈ news, p.1 ≠ 376) → (K0 w.params).In base → Top topProg lo mean mg mb base → cs.kind = .function →
    dp + 20 < recursionLimit → un + 160 < cLine →
    (∀ (c1 c2 : Addr) (oc1 oc2 : Obj) (h' : Heap) (tk' : Nat), Full oc1 oc2 → Fr h₀ L h' m → News h₀ L h' ((376, tabF c1 c2) :: (c1, oc1) :: (c2, oc2) :: news) → Q (.bool true) { s with heap := h', toks := tk' }) →
      wpAny (model pr w) (ktrTop dp un gd cn cs L a ccd [] []) (call (.ref 381) [.int code t, .int x u]) Q E s := by
  unfold pr
  k_fill
  intro lo mean mg mb news dp un gd cn cs a ccd A₀ base h₀ L m s Q E hfacts hx B F X N T CH hnt XB TB hk hdp hun hret
  obtain ⟨hf1, hf2, hf3, hf4⟩ := hfacts
  refine wpAny_call ?_
  k_dflt (refine' code_defCS0 ?k1 ?k2 ?k3 ?k4 ?k5 ?kA ?k6 ?k7 ?k8 ?k9 ?kB ?kD ?_ ?kK ?c2 ?c3 ?c4; (case kA => exact rfl); (case kK => assumption); (case k1 => k_asm); (case k2 => k_asm); (case k3 => k_asm); (case k4 => k_asm); (case k5 => k_asm); (case k6 => k_is); (case k7 => k_is); (case k8 => k_room); (case k9 => exact BindsTo.of_eq rfl); (case kB => exact rfl); (case kD => decide +kernel); (case c2 => exact rfl); (case c3 => exact rfl); (case c4 => exact rfl); k_whole; intro g' L' h' tk' cells' FG' F' N' Y' B' X' T' D' l1; (try k_lt l1); k_cells Y'; (try simp only [List.cons_append, List.nil_append] at N'); (try dsimp only); (try k_fold))
  k_steps
  all_goals first | (refine' hret _ _ _ _ _ _ ?fu ?fr ?ne; (case fr => k_asm); (case ne => refine news_sub (by with_reducible assumption) ?sb; (case sb => refine List.forall_mem_cons.mpr ⟨?n1, List.forall_mem_cons.mpr ⟨?n2, List.forall_mem_cons.mpr ⟨?n3, ?n4⟩⟩⟩; (case n1 => (repeat (first | exact List.Mem.head _ | apply List.Mem.tail))); (case n2 => (repeat (first | exact List.Mem.head _ | apply List.Mem.tail))); (case n3 => (repeat (first | exact List.Mem.head _ | apply List.Mem.tail))); (case n4 => intro p hp; (repeat (first | exact hp | apply List.Mem.tail))))); (case fu => exact full_of (by assumption) (by assumption) rfl (by assumption) (by assumption) rfl)) | w_report
theorem cr_T0_f (w : World) (code x : Int) (t u : Tok) : ∀ (lo : List Str) (mean : ExcName → Option Value) (mg mb : Str → Option Value) (news : List (Addr × Obj)) (c1 c2 : Addr) (oc1 oc2 : Obj) (dp un : Nat) (gd : Option (List Code)) (cn : Str) (cs : Scope) (a : Addr) (ccd : Value) (A₀ : Around) (base h₀ : Heap) (L : Addr) (m : Str → Option Value) (s : Shared) (Q E : Value → Shared → Prop),
    Full oc1 oc2 → (¬ T1 code ∧ ¬ T2 code ∧ ¬ Dv code ∧ ¬ Narrow code) → 0 ≤ x ∧ x < 4294967296 → Below A₀ base [] h₀ → Fr h₀ L s.heap m → (K0 w.params).In h₀ → News h₀ L s.heap ((376, tabF c1 c2) :: (c1, oc1) :: (c2, oc2) :: news) → Top topProg lo mean mg mb h₀ → CodeHd base 380 376 → (K0 w.params).In base → Top topProg lo mean mg mb base → cs.kind = .function →
    dp + 20 < recursionLimit → un + 160 < cLine →
    (∀ (h' : Heap) (tk' : Nat), Fr h₀ L h' m → News h₀ L h' ((376, tabF c1 c2) :: (c1, oc1) :: (c2, oc2) :: news) → Q (.bool true) { s with heap := h', toks := tk' }) →
      wpAny (model pr w) (ktrTop dp un gd cn cs L a ccd [] []) (call (.ref 381) [.int code t, .int x u]) Q E s := by
  unfold pr
  k_fill
  intro lo mean mg mb news c1 c2 oc1 oc2 dp un gd cn cs a ccd A₀ base h₀ L m s Q E hfull hfacts hx B F X N T CH XB TB hk hdp hun hret
  obtain ⟨⟨vs1, t1, ho1, hq1⟩, ⟨vs2, t2, ho2, hq2⟩⟩ := hfull
  obtain ⟨hf1, hf2, hf3, hf4⟩ := hfacts
  refine wpAny_call ?_
  k_dflt (refine' code_defCS0 ?k1 ?k2 ?k3 ?k4 ?k5 ?kA ?k6 ?k7 ?k8 ?k9 ?kB ?kD ?_ ?kK ?c2 ?c3 ?c4; (case kA => exact rfl); (case kK => assumption); (case k1 => k_asm); (case k2 => k_asm); (case k3 => k_asm); (case k4 => k_asm); (case k5 => k_asm); (case k6 => k_is); (case k7 => k_is); (case k8 => k_room); (case k9 => exact BindsTo.of_eq rfl); (case kB => exact rfl); (case kD => decide +kernel); (case c2 => exact rfl); (case c3 => exact rfl); (case c4 => exact rfl); k_whole; intro g' L' h' tk' cells' FG' F' N' Y' B' X' T' D' l1; (try k_lt l1); k_cells Y'; (try simp only [List.cons_append, List.nil_append] at N'); (try dsimp only); (try k_fold))
  k_steps
  all_goals first | (refine' hret _ _ ?fr ?ne; (case fr => k_asm); (case ne => refine news_sub (by with_reducible assumption) ?sb; (case sb => refine List.forall_mem_cons.mpr ⟨?n1, List.forall_mem_cons.mpr ⟨?n2, List.forall_mem_cons.mpr ⟨?n3, ?n4⟩⟩⟩; (case n1 => (repeat (first | exact List.Mem.head _ | apply List.Mem.tail))); (case n2 => (repeat (first | exact List.Mem.head _ | apply List.Mem.tail))); (case n3 => (repeat (first | exact List.Mem.head _ | apply List.Mem.tail))); (case n4 => intro p hp; (repeat (first | exact hp | apply List.Mem.tail)))))) | w_report
theorem cr_T1_f (w : World) (code x : Int) (t u : Tok) : ∀ (lo : List Str) (mean : ExcName → Option Value) (mg mb : Str → Option Value) (news : List (Addr × Obj)) (c1 c2 : Addr) (oc1 oc2 : Obj) (dp un : Nat) (gd : Option (List Code)) (cn : Str) (cs : Scope) (a : Addr) (ccd : Value) (A₀ : Around) (base h₀ : Heap) (L : Addr) (m : Str → Option Value) (s : Shared) (Q E : Value → Shared → Prop),
    Full oc1 oc2 → (T1 code ∧ ¬ T2 code ∧ ¬ Dv code ∧ ¬ Narrow code) → 0 ≤ x ∧ x < 4294967296 → Below A₀ base [] h₀ → Fr h₀ L s.heap m → (K0 w.params).In h₀ → News h₀ L s.heap ((376, tabF c1 c2) :: (c1, oc1) :: (c2, oc2) :: news) → Top topProg lo mean mg mb h₀ → CodeHd base 380 376 → (K0 w.params).In base → Top topProg lo mean mg mb base → cs.kind = .function →
    dp + 20 < recursionLimit → un + 160 < cLine →
    (∀ (h' : Heap) (tk' : Nat), Fr h₀ L h' m → News h₀ L h' ((376, tabF c1 c2) :: (c1, oc1) :: (c2, oc2) :: news) → Q (.bool true) { s with heap := h', toks := tk' }) →
      wpAny (model pr w) (ktrTop dp un gd cn cs L a ccd [] []) (call (.ref 381) [.int code t, .int x u]) Q E s := by
  unfold pr
  k_fill
  intro lo mean mg mb news c1 c2 oc1 oc2 dp un gd cn cs a ccd A₀ base h₀ L m s Q E hfull hfacts hx B F X N T CH XB TB hk hdp hun hret
  obtain ⟨⟨vs1, t1, ho1, hq1⟩, ⟨vs2, t2, ho2, hq2⟩⟩ := hfull
  obtain ⟨hf1, hf2, hf3, hf4⟩ := hfacts
  refine wpAny_call ?_
  k_dflt (refine' code_defCS0 ?k1 ?k2 ?k3 ?k4 ?k5 ?kA ?k6 ?k7 ?k8 ?k9 ?kB ?kD ?_ ?kK ?c2 ?c3 ?c4; (case kA => exact rfl); (case kK => assumption); (case k1 => k_asm); (case k2 => k_asm); (case k3 => k_asm); (case k4 => k_asm); (case k5 => k_asm); (case k6 => k_is); (case k7 => k_is); (case k8 => k_room); (case k9 => exact BindsTo.of_eq rfl); (case kB => exact rfl); (case kD => decide +kernel); (case c2 => exact rfl); (case c3 => exact rfl); (case c4 => exact rfl); k_whole; intro g' L' h' tk' cells' FG' F' N' Y' B' X' T' D' l1; (try k_lt l1); k_cells Y'; (try simp only [List.cons_append, List.nil_append] at N'); (try dsimp only); (try k_fold))
  k_steps
  all_goals first | (refine' hret _ _ ?fr ?ne; (case fr => k_asm); (case ne => refine news_sub (by with_reducible assumption) ?sb; (case sb => refine List.forall_mem_cons.mpr ⟨?n1, List.forall_mem_cons.mpr ⟨?n2, List.forall_mem_cons.mpr ⟨?n3, ?n4⟩⟩⟩; (case n1 => (repeat (first | exact List.Mem.head _ | apply List.Mem.tail))); (case n2 => (repeat (first | exact List.Mem.head _ | apply List.Mem.tail))); (case n3 => (repeat (first | exact List.Mem.head _ | apply List.Mem.tail))); (case n4 => intro p hp; (repeat (first | exact hp | apply List.Mem.tail)))))) | w_report
theorem cr_T1N_f (w : World) (code x : Int) (t u : Tok) : ∀ (lo : List Str) (mean : ExcName → Option Value) (mg mb : Str → Option Value) (news : List (Addr × Obj)) (c1 c2 : Addr) (oc1 oc2 : Obj) (dp un : Nat) (gd : Option (List Code)) (cn : Str) (cs : Scope) (a : Addr) (ccd : Value) (A₀ : Around) (base h₀ : Heap) (L : Addr) (m : Str → Option Value) (s : Shared) (Q E : Value → Shared → Prop),
    Full oc1 oc2 → (T1 code ∧ ¬ T2 code ∧ ¬ Dv code ∧ Narrow code) → 0 ≤ x ∧ x < 4294967296 → Below A₀ base [] h₀ → Fr h₀ L s.heap m → (K0 w.params).In h₀ → News h₀ L s.heap ((376, tabF c1 c2) :: (c1, oc1) :: (c2, oc2) :: news) → Top topProg lo mean mg mb h₀ → CodeHd base 380 376 → (K0 w.params).In base → Top topProg lo mean mg mb base → cs.kind = .function →
    dp + 20 < recursionLimit → un + 160 < cLine →
    (∀ (h' : Heap) (tk' : Nat), Fr h₀ L h' m → News h₀ L h' ((376, tabF c1 c2) :: (c1, oc1) :: (c2, oc2) :: news) → Q (.bool true) { s with heap := h', toks := tk' }) →
      wpAny (model pr w) (ktrTop dp un gd cn cs L a ccd [] []) (call (.ref 381) [.int code t, .int x u]) Q E s := by
  unfold pr
  k_fill
  intro lo mean mg mb news c1 c2 oc1 oc2 dp un gd cn cs a ccd A₀ base h₀ L m s Q E hfull hfacts hx B F X N T CH XB TB hk hdp hun hret
  obtain ⟨⟨vs1, t1, ho1, hq1⟩, ⟨vs2, t2, ho2, hq2⟩⟩ := hfull
  obtain ⟨hf1, hf2, hf3, hf4⟩ := hfacts
  refine wpAny_call ?_
  k_dflt (refine' code_defCS0 ?k1 ?k2 ?k3 ?k4 ?k5 ?kA ?k6 ?k7 ?k8 ?k9 ?kB ?kD ?_ ?kK ?c2 ?c3 ?c4; (case kA => exact rfl); (case kK => assumption); (case k1 => k_asm); (case k2 => k_asm); (case k3 => k_asm); (case k4 => k_asm); (case k5 => k_asm); (case k6 => k_is); (case k7 => k_is); (case k8 => k_room); (case k9 => exact BindsTo.of_eq rfl); (case kB => exact rfl); (case kD => decide +kernel); (case c2 => exact rfl); (case c3 => exact rfl); (case c4 => exact rfl); k_whole; intro g' L' h' tk' cells' FG' F' N' Y' B' X' T' D' l1; (try k_lt l1); k_cells Y'; (try simp only [List.cons_append, List.nil_append] at N'); (try dsimp only); (try k_fold))
  k_steps
  all_goals first | (refine' hret _ _ ?fr ?ne; (case fr => k_asm); (case ne => refine news_sub (by with_reducible assumption) ?sb; (case sb => refine List.forall_mem_cons.mpr ⟨?n1, List.forall_mem_cons.mpr ⟨?n2, List.forall_mem_cons.mpr ⟨?n3, ?n4⟩⟩⟩; (case n1 => (repeat (first | exact List.Mem.head _ | apply List.Mem.tail))); (case n2 => (repeat (first | exact List.Mem.head _ | apply List.Mem.tail))); (case n3 => (repeat (first | exact List.Mem.head _ | apply List.Mem.tail))); (case n4 => intro p hp; (repeat (first | exact hp | apply List.Mem.tail)))))) | w_report
theorem cr_T2_f (w : World) (code x : Int) (t u : Tok) : ∀ (lo : List Str) (mean : ExcName → Option Value) (mg mb : Str → Option Value) (news : List (Addr × Obj)) (c1 c2 : Addr) (oc1 oc2 : Obj) (dp un : Nat) (gd : Option (List Code)) (cn : Str) (cs : Scope) (a : Addr) (ccd : Value) (A₀ : Around) (base h₀ : Heap) (L : Addr) (m : Str → Option Value) (s : Shared) (Q E : Value → Shared → Prop),
    Full oc1 oc2 → (¬ T1 code ∧ T2 code ∧ ¬ Dv code ∧ ¬ Narrow code) → 0 ≤ x ∧ x < 4294967296 → Below A₀ base [] h₀ → Fr h₀ L s.heap m → (K0 w.params).In h₀ → News h₀ L s.heap ((376, tabF c1 c2) :: (c1, oc1) :: (c2, oc2) :: news) → Top topProg lo mean mg mb h₀ → CodeHd base 380 376 → (K0 w.params).In base → Top topProg lo mean mg mb base → cs.kind = .function →
    dp + 20 < recursionLimit → un + 160 < cLine →
    (∀ (h' : Heap) (tk' : Nat), Fr h₀ L h' m → News h₀ L h' ((376, tabF c1 c2) :: (c1, oc1) :: (c2, oc2) :: news) → Q (.bool true) { s with heap := h', toks := tk' }) →
      wpAny (model pr w) (ktrTop dp un gd cn cs L a ccd [] []) (call (.ref 381) [.int code t, .int x u]) Q E s := by
  unfold pr
  k_fill
  intro lo mean mg mb news c1 c2 oc1 oc2 dp un gd cn cs a ccd A₀ base h₀ L m s Q E hfull hfacts hx B F X N T CH XB TB hk hdp hun hret
  obtain ⟨⟨vs1, t1, ho1, hq1⟩, ⟨vs2, t2, ho2, hq2⟩⟩ := hfull
  obtain ⟨hf1, hf2, hf3, hf4⟩ := hfacts
  refine wpAny_call ?_
  k_dflt (refine' code_defCS0 ?k1 ?k2 ?k3 ?k4 ?k5 ?kA ?k6 ?k7 ?k8 ?k9 ?kB ?kD ?_ ?kK ?c2 ?c3 ?c4; (case kA => exact rfl); (case kK => assumption); (case k1 => k_asm); (case k2 => k_asm); (case k3 => k_asm); (case k4 => k_asm); (case k5 => k_asm); (case k6 => k_is); (case k7 => k_is); (case k8 => k_room); (case k9 => exact BindsTo.of_eq rfl); (case kB => exact rfl); (case kD => decide +kernel); (case c2 => exact rfl); (case c3 => exact rfl); (case c4 => exact rfl); k_whole; intro g' L' h' tk' cells' FG' F' N' Y' B' X' T' D' l1; (try k_lt l1); k_cells Y'; (try simp only [List.cons_append, List.nil_append] at N'); (try dsimp only); (try k_fold))
  k_steps
  all_goals first | (refine' hret _ _ ?fr ?ne; (case fr => k_asm); (case ne => refine news_sub (by with_reducible assumption) ?sb; (case sb => refine List.forall_mem_cons.mpr ⟨?n1, List.forall_mem_cons.mpr ⟨?n2, List.forall_mem_cons.mpr ⟨?n3, ?n4⟩⟩⟩; (case n1 => (repeat (first | exact List.Mem.head _ | apply List.Mem.tail))); (case n2 => (repeat (first | exact List.Mem.head _ | apply List.Mem.tail))); (case n3 => (repeat (first | exact List.Mem.head _ | apply List.Mem.tail))); (case n4 => intro p hp; (repeat (first | exact hp | apply List.Mem.tail)))))) | w_report
theorem cr_DV_f (w : World) (code x : Int) (t u : Tok) : ∀ (lo : List Str) (mean : ExcName → Option Value) (mg mb : Str → Option Value) (news : List (Addr × Obj)) (c1 c2 : Addr) (oc1 oc2 : Obj) (dp un : Nat) (gd : Option (List Code)) (cn : Str) (cs : Scope) (a : Addr) (ccd : Value) (A₀ : Around) (base h₀ : Heap) (L : Addr) (m : Str → Option Value) (s : Shared) (Q E : Value → Shared → Prop),
    Full oc1 oc2 → (¬ T1 code ∧ T2 code ∧ Dv code ∧ ¬ Narrow code) → 0 ≤ x ∧ x < 4294967296 → Below A₀ base [] h₀ → Fr h₀ L s.heap m → (K0 w.params).In h₀ → News h₀ L s.heap ((376, tabF c1 c2) :: (c1, oc1) :: (c2, oc2) :: news) → Top topProg lo mean mg mb h₀ → CodeHd base 380 376 → (K0 w.params).In base → Top topProg lo mean mg mb base → cs.kind = .function →
    dp + 20 < recursionLimit → un + 160 < cLine →
    (∀ (h' : Heap) (tk' : Nat), Fr h₀ L h' m → News h₀ L h' ((376, tabF c1 c2) :: (c1, oc1) :: (c2, oc2) :: news) → Q (.bool true) { s with heap := h', toks := tk' }) →
      wpAny (model pr w) (ktrTop dp un gd cn cs L a ccd [] []) (call (.ref 381) [.int code t, .int x u]) Q E s := by
  unfold pr
  k_fill
  intro lo mean mg mb news c1 c2 oc1 oc2 dp un gd cn cs a ccd A₀ base h₀ L m s Q E hfull hfacts hx B F X N T CH XB TB hk hdp hun hret
  obtain ⟨⟨vs1, t1, ho1, hq1⟩, ⟨vs2, t2, ho2, hq2⟩⟩ := hfull
  obtain ⟨hf1, hf2, hf3, hf4⟩ := hfacts
  refine wpAny_call ?_
  k_dflt (refine' code_defCS0 ?k1 ?k2 ?k3 ?k4 ?k5 ?kA ?k6 ?k7 ?k8 ?k9 ?kB ?kD ?_ ?kK ?c2 ?c3 ?c4; (case kA => exact rfl); (case kK => assumption); (case k1 => k_asm); (case k2 => k_asm); (case k3 => k_asm); (case k4 => k_asm); (case k5 => k_asm); (case k6 => k_is); (case k7 => k_is); (case k8 => k_room); (case k9 => exact BindsTo.of_eq rfl); (case kB => exact rfl); (case kD => decide +kernel); (case c2 => exact rfl); (case c3 => exact rfl); (case c4 => exact rfl); k_whole; intro g' L' h' tk' cells' FG' F' N' Y' B' X' T' D' l1; (try k_lt l1); k_cells Y'; (try simp only [List.cons_append, List.nil_append] at N'); (try dsimp only); (try k_fold))
  k_steps
  all_goals first | (refine' hret _ _ ?fr ?ne; (case fr => k_asm); (case ne => refine news_sub (by with_reducible assumption) ?sb; (case sb => refine List.forall_mem_cons.mpr ⟨?n1, List.forall_mem_cons.mpr ⟨?n2, List.forall_mem_cons.mpr ⟨?n3, ?n4⟩⟩⟩; (case n1 => (repeat (first | exact List.Mem.head _ | apply List.Mem.tail))); (case n2 => (repeat (first | exact List.Mem.head _ | apply List.Mem.tail))); (case n3 => (repeat (first | exact List.Mem.head _ | apply List.Mem.tail))); (case n4 => intro p hp; (repeat (first | exact hp | apply List.Mem.tail)))))) | w_report
end
section
theorem cr_full (w : World) (code x : Int) (t u : Tok) : ∀ (lo : List Str) (mean : ExcName → Option Value) (mg mb : Str → Option Value) (news : List (Addr × Obj)) (c1 c2 : Addr) (oc1 oc2 : Obj) (dp un : Nat) (gd : Option (List Code)) (cn : Str) (cs : Scope) (a : Addr) (ccd : Value) (A₀ : Around) (base h₀ : Heap) (L : Addr) (m : Str → Option Value) (s : Shared) (Q E : Value → Shared → Prop),
    Full oc1 oc2 → 0 ≤ x ∧ x < 4294967296 → Below A₀ base [] h₀ → Fr h₀ L s.heap m → (K0 w.params).In h₀ → News h₀ L s.heap ((376, tabF c1 c2) :: (c1, oc1) :: (c2, oc2) :: news) → Top topProg lo mean mg mb h₀ → CodeHd base 380 376 → (K0 w.params).In base → Top topProg lo mean mg mb base → cs.kind = .function →
    dp + 20 < recursionLimit → un + 160 < cLine →
    (∀ (h' : Heap) (tk' : Nat), Fr h₀ L h' m → News h₀ L h' ((376, tabF c1 c2) :: (c1, oc1) :: (c2, oc2) :: news) → Q (.bool true) { s with heap := h', toks := tk' }) →
      wpAny (model pr w) (ktrTop dp un gd cn cs L a ccd [] []) (call (.ref 381) [.int code t, .int x u]) Q E s := by
  intro lo mean mg mb news c1 c2 oc1 oc2 dp un gd cn cs a ccd A₀ base h₀ L m s Q E hfull
  by_cases hn : Narrow code
  · exact cr_T1N_f w code x t u lo mean mg mb news c1 c2 oc1 oc2 dp un gd cn cs a ccd A₀ base h₀ L m s Q E hfull ⟨(narrow_kin hn).1, (narrow_kin hn).2.1, (narrow_kin hn).2.2, hn⟩
  by_cases hv : Dv code
  · exact cr_DV_f w code x t u lo mean mg mb news c1 c2 oc1 oc2 dp un gd cn cs a ccd A₀ base h₀ L m s Q E hfull ⟨(dv_kin hv).1, (dv_kin hv).2, hv, hn⟩
  by_cases h2 : T2 code
  · exact cr_T2_f w code x t u lo mean mg mb news c1 c2 oc1 oc2 dp un gd cn cs a ccd A₀ base h₀ L m s Q E hfull ⟨t2_kin h2, h2, hv, hn⟩
  by_cases h1 : T1 code
  · exact cr_T1_f w code x t u lo mean mg mb news c1 c2 oc1 oc2 dp un gd cn cs a ccd A₀ base h₀ L m s Q E hfull ⟨h1, h2, hv, hn⟩
  · exact cr_T0_f w code x t u lo mean mg mb news c1 c2 oc1 oc2 dp un gd cn cs a ccd A₀ base h₀ L m s Q E hfull ⟨h1, h2, hv, hn⟩
end
section
section
variable {prog : Program} {w : World} {A : Around} {E : Value → Shared → Prop} {s : Shared}
/-- a list filled from a range whose bounds do not fit a machine word -/
theorem ext_long {R : Result → Shared → Prop} {r : Addr} {a b c : Int} {t u v : Tok} {n : Nat} (hh : A.handled = none) (hr : IsRange s.heap r a b c t u v) (hbig : Builtin.Range.small a b c = false)
    (hn : Builtin.Range.rangeSize a b c = n) (hlen : n ≤ 2 ^ 24) (S : Addr) (res : Value) (c₀ : Nat) (hS : s.heap.get? S = some { cls := .type "list", data := .seq #[] c₀ })
    (hR : ∀ h' tk acc' c', (∀ b o, b ≠ S → s.heap.get? b = some o → h'.get? b = some o) → h'.get? S = some { cls := .type "list", dict := none, data := .seq acc' c', slots := #[] } →
      ItemsOf (fun i v => ∃ t, v = .int (a + i * c) t) acc' n → R (.ok (.ret res)) { s with heap := h', toks := tk }) :
    wpAny (model prog w) A.in1 (Builtin.List.listExtendWith (.ref S) (.ref r) res)
      (fun fin s' => match fin with | .done f => R (.ok f) s' | .again c' => c'.quiet = true ∧ codeAny (model prog w) A c' R s') (fun e s' => R (.error e) s') s := by
  have nSr : S ≠ r := fun e => by
    rw [e, hr] at hS
    simp at hS
  have nSI : S ≠ s.heap.objs.size := Nat.ne_of_lt (Heap.lt_size hS)
  have W := (Walks.longrange (prog := prog) (w := w) (A := A.in1) hh s.heap.objs.size a c n).toS
  have go : ∀ (g : Heap) (k tk : Nat), IsLongIter g s.heap.objs.size (a + ((0 : Nat) : Int) * c) ((n : Int) - ((0 : Nat) : Int)) c → (∀ b o, b ≠ S → s.heap.get? b = some o → g.get? b = some o) →
      g.get? S = some { cls := .type "list", data := .seq #[] k } → codeAny (model prog w) A (.builtin "list.extend.loop" ⟨[.ref S, .ref s.heap.objs.size, res], []⟩) R { s with heap := g, toks := tk } := by
    intro g k tk hit hk hg
    refine codeAny_extend_loopS W (by rw [sizeLine_eq]; omega) S (fun hm => nSI (List.mem_singleton.mp hm)) res n 0 _ #[] k rfl (Nat.zero_le _) hit hg (ItemsOf.nil _) fun s' acc' c' hm hS' hacc => ?_
    rw [Moved.eq_with hm]
    refine hR s'.heap s'.toks acc' c' (fun b o hb e => hm.heap b o (fun q => ?_) (hk b o hb e)) hS' hacc
    rcases List.mem_cons.mp q with z | z
    · exact hb z
    · exact absurd (Heap.lt_size e) (by rw [List.mem_singleton.mp z]; exact Nat.lt_irrefl _)
  unfold Builtin.List.listExtendWith
  refine wpAny_bind (wpAny_typeOf (T := "range") ⟨_, hr, rfl⟩ ?_)
  have e1 : Builtin.List.listSameRef (.ref S) (.ref r) = false := by simp [Builtin.List.listSameRef, nSr]
  have e2 : (Value.type "range" == Value.type "list") = false := by decide
  have e3 : (Value.type "range" == Value.type "tuple") = false := by decide
  simp only [e1, e2, e3, Bool.or_false, Bool.false_eq_true, if_false]
  refine wpAny_bind (wpAny_pyIter_longrange hr hbig ?_)
  refine wpAny_bind (wpAny_holding (wpAny_hint_range (n := n) (Heap.get?_push_of_some _ hr) hn hlen ?_))
  have it1 : IsLongIter (s.heap.push { cls := .type "longrange_iterator", data := .fields #[rawInt a, rawInt (Builtin.Range.rangeSize a b c), rawInt c] }) s.heap.objs.size (a + ((0 : Nat) : Int) * c) ((n : Int) - ((0 : Nat) : Int)) c := by
    show IsLongIter _ _ _ _ _
    rw [hn]
    simpa using Heap.get?_push_size _ rfl
  have S1 := Heap.get?_push_of_some { cls := .type "longrange_iterator", data := .fields #[rawInt a, rawInt (Builtin.Range.rangeSize a b c), rawInt c] } hS
  refine wpAny_ite_split (fun _ => ?_) (fun _ => wpAny_pure ⟨plainId_quiet F.plain_extend_loop _, go _ c₀ _ it1 (fun b o _ e => Heap.get?_push_of_some _ e) S1⟩)
  refine wpAny_bind (wpAny_rule ?_)
  refine wpAny_bind ?_
  show wpAny _ _ (updateSeq S (·.push .none) >>= fun _ => updateSeq S (·.pop)) _ _ _
  refine wpAny_bind (wpAny_updateSeq S1 rfl ?_)
  have S2 := Heap.get?_update_self (Obj.mapSeq (·.push Value.none)) S1 rfl
  refine wpAny_updateSeq (hz := by seq_fits) S2 rfl ?_
  have S3 := Heap.get?_update_self (Obj.mapSeq (·.pop)) S2 rfl
  refine wpAny_pure ⟨plainId_quiet F.plain_extend_loop _, go _ _ _ ?_ (fun b o hb e => ?_) S3⟩
  · exact (Heap.get?_update_other _ _ nSI).trans ((Heap.get?_update_other _ _ nSI).trans it1)
  · exact (Heap.get?_update_other _ _ (Ne.symm hb)).trans ((Heap.get?_update_other _ _ (Ne.symm hb)).trans (Heap.get?_push_of_some _ e))
theorem init_long {R : Result → Shared → Prop} {r : Addr} {a b c : Int} {t u v : Tok} {n : Nat} (hh : A.handled = none) (hr : IsRange s.heap r a b c t u v) (hbig : Builtin.Range.small a b c = false)
    (hn : Builtin.Range.rangeSize a b c = n) (hlen : n ≤ 2 ^ 24) (S : Addr) (hS : s.heap.get? S = some { cls := .type "list", data := .seq #[] })
    (hR : ∀ h' tk acc' c', (∀ b o, b ≠ S → s.heap.get? b = some o → h'.get? b = some o) → h'.get? S = some { cls := .type "list", dict := none, data := .seq acc' c', slots := #[] } →
      ItemsOf (fun i v => ∃ t, v = .int (a + i * c) t) acc' n → R (.ok (.ret .none)) { s with heap := h', toks := tk }) :
    wpAny (model prog w) A.in1 (Builtin.«list.__init__» ⟨[.ref S, .ref r], []⟩)
      (fun fin s' => match fin with | .done f => R (.ok f) s' | .again c' => c'.quiet = true ∧ codeAny (model prog w) A c' R s') (fun e s' => R (.error e) s') s := by
  have nSr : S ≠ r := fun e => by
    rw [e, hr] at hS
    simp at hS
  show wpAny _ _ (do let old ← Builtin.List.listItems (.ref S); Builtin.List.listUpdate (.ref S) (fun _ => #[]); letGo old.toList.reverse; Builtin.List.listExtendWith (.ref S) (.ref r) .none) _ _ s
  refine wpAny_bind ?_
  unfold Builtin.List.listItems
  refine wpAny_bind (wpAny_seqItems hS rfl (wpAny_pure ?_))
  show wpAny _ _ (updateSeq S (fun _ => #[]) >>= fun _ => letGo (#[] : Array Value).toList.reverse >>= fun _ => Builtin.List.listExtendWith (.ref S) (.ref r) .none) _ _ s
  refine wpAny_bind (wpAny_updateSeq hS rfl ?_)
  have S2 := Heap.get?_update_self (Obj.mapSeq (fun _ => (#[] : Array Value))) hS rfl
  have oth : ∀ b o, b ≠ S → s.heap.get? b = some o → (s.heap.update S (Obj.mapSeq (fun _ => (#[] : Array Value)))).get? b = some o :=
    fun b o hb e => (Heap.get?_update_other _ _ (Ne.symm hb)).trans e
  refine wpAny_bind (wpAny_letGo ?_)
  exact ext_long hh (oth r _ (Ne.symm nSr) hr) hbig hn hlen S .none _ S2 fun h' tk acc' c' hk hS' hacc => hR h' tk acc' c' (fun b o hb e => hk b o hb (oth b o hb e)) hS' hacc
theorem call_list_any {Q : Value → Shared → Prop} {r : Addr} {a b c : Int} {t u v : Tok} {n : Nat} (hh : A.handled = none) (hr : IsRange s.heap r a b c t u v)
    (hn : Builtin.Range.rangeSize a b c = n) (hlen : n ≤ 2 ^ 24)
    (hQ : ∀ h' tk acc' c', (∀ b o, s.heap.get? b = some o → h'.get? b = some o) →
      h'.get? s.heap.objs.size = some { cls := .type "list", dict := none, data := .seq acc' c', slots := #[] } → ItemsOf (fun i v => ∃ t, v = .int (a + i * c) t) acc' n → Q (.ref s.heap.objs.size) { s with heap := h', toks := tk }) :
    wpAny (model prog w) A (call (.type "list") [.ref r]) Q E s := by
  by_cases hs : Builtin.Range.small a b c = true
  · exact call_list_range hh hr hs hn hlen hQ
  have hbig : Builtin.Range.small a b c = false := by simpa using hs
  refine callType_codes (Q₁ := fun obj s₁ => obj = .ref s.heap.objs.size ∧ s₁ = { s with heap := s.heap.push { cls := .type "list", data := .seq #[] } }) F.called_list (F.typeCall_list_1 _) F.entry_list_init
    (code_list_new _ ⟨rfl, rfl⟩) fun obj s₁ h₁ => ?_
  obtain ⟨rfl, rfl⟩ := h₁
  have hS : (s.heap.push { cls := .type "list", data := .seq #[] }).get? s.heap.objs.size = some { cls := .type "list", data := .seq #[] } := Heap.get?_push_size _ rfl
  refine ⟨⟨_, hS, rfl⟩, F.args_list_init_2 _ _, init_long (A := A.in1) hh (Heap.get?_push_of_some _ hr) hbig hn hlen _ hS fun h' tk acc' c' hk hS' hacc => ?_⟩
  exact ⟨rfl, hQ h' tk acc' c' (fun b o e => hk b o (Nat.ne_of_lt (Heap.lt_size e)) (Heap.get?_push_of_some _ e)) hS' hacc⟩
variable {h₀ : Heap} {L r : Addr} {m : Str → Option Value} {news : List (Addr × Obj)} {a b : Int} {t₀ u₀ v₀ : Tok} {n : Nat} {Q : Value → Shared → Prop}
/-- list(range(a, a + n)) -/
theorem list_rg (hh : A.handled = none) (F : Fr h₀ L s.heap m) (N : News h₀ L s.heap news) (hr : IsRange s.heap r a b 1 t₀ u₀ v₀) (hn : Builtin.Range.rangeSize a b 1 = (n : Int)) (hz : n ≤ 2 ^ 24)
    (h : ∀ D us c h' tk, Fr h₀ L h' m → News h₀ L h' ((D, listOf (List.toArray us) c) :: news) → (∀ p ∈ news, p.1 < D) → IntsAre us (rangeKs a n) → Q (.ref D) { s with heap := h', toks := tk }) :
    wpAny (model prog w) A (call (.type "list") [.ref r]) Q E s := by
  refine call_list_any hh hr hn hz fun h' tk acc c hk hD hI => ?_
  have hD' : h'.get? s.heap.objs.size = some (listOf (List.toArray acc.toList) c) := by
    rw [Array.toArray_toList]
    exact hD
  exact h _ acc.toList c h' tk (F.keeps hk) (news_pushed F N hk hD' rfl) (fun p hp => Heap.lt_size (N p hp).1) (kll_ints _ _ _ (by rw [Array.length_toList]; exact hI.1) fun j v hj => hI.2 j v (by rw [← hj, Array.getElem?_toList]))
theorem ints_all : ∀ vs : List Value, (∀ v ∈ vs, ∃ k t, v = .int k t) → ∃ ns, IntsAre vs ns
  | [], _ => ⟨[], .nil⟩
  | v :: r, h => by
    obtain ⟨k, t, rfl⟩ := h v (.head _)
    obtain ⟨ns, hn⟩ := ints_all r fun u hu => h u (.tail _ hu)
    exact ⟨k :: ns, .cons k t hn⟩
/-- list(range(a, 202, 2)) from 63 or 64: what it begins with is all that counts -/
theorem list_two (hh : A.handled = none) (F : Fr h₀ L s.heap m) (N : News h₀ L s.heap news) (hr : IsRange s.heap r a 202 2 t₀ u₀ v₀) (h1 : 63 ≤ a) (h2 : a ≤ 64)
    (h : ∀ D us rest c h' tk, Fr h₀ L h' m → News h₀ L h' ((D, listOf (List.toArray us) c) :: news) → (∀ p ∈ news, p.1 < D) → IntsAre us (a :: rest) → us.length ≤ 70 → Q (.ref D) { s with heap := h', toks := tk }) :
    wpAny (model prog w) A (call (.type "list") [.ref r]) Q E s := by
  obtain ⟨n, hn, h70, h0⟩ : ∃ n : Nat, Builtin.Range.rangeSize a 202 2 = (n : Int) ∧ n ≤ 70 ∧ 0 < n := by
    have : a = 63 ∨ a = 64 := by omega
    rcases this with rfl | rfl
    · exact ⟨70, by decide, by decide, by decide⟩
    · exact ⟨69, by decide, by decide, by decide⟩
  refine call_list_any hh hr hn (by omega) fun h' tk acc c hk hD hI => ?_
  have hD' : h'.get? s.heap.objs.size = some (listOf (List.toArray acc.toList) c) := by
    rw [Array.toArray_toList]
    exact hD
  have hlen : acc.toList.length = n := by rw [Array.length_toList]; exact hI.1
  have hat : ∀ (j : Nat) (v : Value), acc.toList[j]? = some v → ∃ t, v = .int (a + j * 2) t := fun j v hj => hI.2 j v (by rw [← hj, Array.getElem?_toList])
  obtain ⟨v, r', hl⟩ : ∃ v r', acc.toList = v :: r' := by
    cases q : acc.toList with
    | nil => rw [q] at hlen; simp at hlen; omega
    | cons v r' => exact ⟨v, r', rfl⟩
  have hF := F.keeps hk
  have hN := news_pushed F N hk hD' rfl
  rw [hl] at hlen hat hN
  obtain ⟨t, hv⟩ := hat 0 v rfl
  have hv' : v = .int a t := by rw [hv]; simp
  subst hv'
  obtain ⟨ns, hi⟩ := ints_all r' fun u hu => by
    obtain ⟨j, hj⟩ := List.mem_iff_getElem?.mp hu
    obtain ⟨t', e⟩ := hat (j + 1) u hj
    exact ⟨_, t', e⟩
  exact h _ _ ns c h' tk hF hN (fun p hp => Heap.lt_size (N p hp).1) (.cons a t hi) (by rw [hlen]; exact h70)
end
end
section
theorem rangeKs_at {a : Int} {n j : Nat} (h : j < (rangeKs a n).length) : (rangeKs a n)[j] = a + (j : Int) := by simp [rangeKs]
theorem rangeKs_any (a k : Int) (n : Nat) : (rangeKs a n).any (· == k) = decide (a ≤ k ∧ k < a + (n : Int)) := by
  rw [Bool.eq_iff_iff, List.any_eq_true, decide_eq_true_eq]
  constructor
  · rintro ⟨y, hy, e⟩
    have := mem_rangeKs hy
    rw [eq_of_beq e] at this
    exact this
  · rintro ⟨h1, h2⟩
    exact ⟨k, List.mem_map.mpr ⟨(k - a).toNat, List.mem_range.mpr (by omega), by omega⟩, beq_self_eq_true k⟩
section
variable {prog : Program} {w : World} {A : Around} {E : Value → Shared → Prop} {s : Shared} {h₀ : Heap} {L D : Addr} {news : List (Addr × Obj)} {us : List Value} {c n : Nat} {a k : Int} {t : Tok} {Q : Value → Shared → Prop}
theorem in_rg {b : Bool} (hb : b = decide (a ≤ k ∧ k < a + (n : Int))) (N : News h₀ L s.heap news) (hm : (D, listOf us.toArray c) ∈ news) (hi : IntsAre us (rangeKs a n)) (h : Q (.bool b) s) : wpAny (model prog w) A (compareOp .In (.int k t) (.ref D)) Q E s :=
  in_list_ints (vs := us) ⟨_, (N _ hm).1, rfl, _, rfl⟩ hi (by rw [rangeKs_any, ← hb]; exact h)
theorem index_rg (N : News h₀ L s.heap news) (hm : (D, listOf us.toArray c) ∈ news) (hi : IntsAre us (rangeKs a n)) (h1 : a ≤ k) (h2 : k < a + (n : Int)) (hn : n ≤ 2 ^ 24) (h : Q (.int (k - a) s.toks) { s with toks := s.toks + 1 }) :
    wpAny (model prog w) A (call (.builtin "list.index") [.ref D, .int k t]) Q E s := by
  have ho := (N _ hm).1
  have hlen := hi.length
  rw [rangeKs_length] at hlen
  have hk : ((k - a).toNat : Int) = k - a := by omega
  refine call_meets PySem.F.slot_list_index ⟨_, ho, rfl⟩ PySem.F.entry_list_index (PySem.F.args_list_index_2 _ _)
    (SeqAt.list_indexAt D us.toArray c none #[] (.int k t) (isInt k) (k - a).toNat (by simp; omega) (by omega) ?_ ?_) ⟨ho, fun y hy => (eq_isInt k t hi y (by simpa using hy)).at _ _, by rw [hk]; exact h⟩
  · show isInt k us[(k - a).toNat] = true
    rw [isInt_at k hi _ (by omega) (by rw [rangeKs_length]; omega), rangeKs_at]
    simp
    omega
  · intro j hjs hlt
    show isInt k us[j] = false
    rw [isInt_at k hi j (by simpa using hjs) (by rw [rangeKs_length]; omega), rangeKs_at]
    simp
    omega
end
end
section
/-- the way out of a def that found an empty ledger: all that stood at the call stands -/
def LeaveW (h₀ : Heap) (L : Addr) (m : Str → Option Value) (hc g : Heap) (R : Result → Shared → Prop) (v : Value) (s' : Shared) : Prop :=
  ∃ L' m' news', Fr g L' s'.heap m' ∧ News g L' s'.heap news' ∧ (Fr h₀ L s'.heap m → (∀ b o, hc.get? b = some o → s'.heap.get? b = some o) → News h₀ L s'.heap news' → R (.ok (.ret v)) s')
theorem leaveW_ {h₀ hc g : Heap} {L L' : Addr} {m m' : Str → Option Value} {news' : List (Addr × Obj)} {R : Result → Shared → Prop} {v : Value} {s' : Shared} (F' : Fr g L' s'.heap m') (N' : News g L' s'.heap news')
    (k : Fr h₀ L s'.heap m → (∀ b o, hc.get? b = some o → s'.heap.get? b = some o) → News h₀ L s'.heap news' → R (.ok (.ret v)) s') : LeaveW h₀ L m hc g R v s' := ⟨L', m', news', F', N', k⟩
section
variable {prog : Program} {w : World} {A₀ A : Around} {s : Shared} {base h₀ : Heap} {L : Addr} {m : Str → Option Value} {K : Frag} {p : Program} {loose : List Str} {lo : List Str} {mean : ExcName → Option Value} {mg mb : Str → Option Value}
    {R : Result → Shared → Prop} {name qual : Str} {params : Arguments} {body : List Stmt} {scope : Scope} {dV kV doc pm cdv ct oc : Value} {an od : Option Addr} {osl : Array (Option Value)} {f : Addr} {args : Args} {binds : List (Str × Value)}
theorem code_defW {env : Env} {outer : List Env} (B : Below A₀ base outer h₀) (F : Fr h₀ L s.heap m) (X₀ : K.In h₀) (T : Top p loose mean mg mb h₀) (hA : A.frames = some (env :: outer)) (hf : env.frame = some L) (hke : env.scope.kind = .function)
    (ho : K.lookup f = some ⟨oc, od, .func (fnOf name qual params body scope dV kV doc pm an cdv ct), osl⟩) (hcd : codeIn K cdv qual = true) (hroom : A.depth < recursionLimit)
    (hbind : BindsTo s (fnOf name qual params body scope dV kV doc pm an cdv ct) args binds) (hloc : ∀ y ∈ binds, scope.names.lookup y.1 = some .local)
    (h : ∀ g L' h₁, Fr h₀ L g m → Fr g L' h₁ (fun y => binds.reverse.lookup y) → News g L' h₁ [] → Below A base (env :: outer) g → K.In g → Top p loose mean mg mb g →
      wpAny (model prog w) (A.deeper (envOf qual scope L' f cdv)) (execs body (envOf qual scope L' f cdv))
        (fun fl s' => LeaveW h₀ L m s.heap g R (match fl with | .ret v => v | _ => .none) s')
        (fun e s' => wpAny (model prog w) (A.deeper (envOf qual scope L' f cdv)) (leaving (envOf qual scope L' f cdv) e) (fun _ s'' => R (.error e) s'') (fun e' s'' => R (.error e') s'') s')
        { s with heap := h₁, toks := s.toks + binds.length })
    (hco : scope.isCoroutine = false) (hgen : scope.isGenerator = false) (hk : scope.kind = .function)
    (hcell : ∀ x ∈ scope.names, x.2 ≠ .cell) : codeAny (model prog w) A (.call (.ref f) args) R s := by
  have X := X₀.keeps F.keep
  have N0 : News h₀ L s.heap [] := fun p hp => nomatch hp
  obtain ⟨FG, BG, st, lv⟩ := groundX (R := R) B F N0 hA hf hke
  refine codeAny_call_def (fd := fnOf name qual params body scope dV kV doc pm an cdv ct) (body := body) (binds := binds) hroom (X _ _ ho) rfl (T.nolimit.keeps F.keep) (codeRec_of X hcd) rfl hbind hcell hloc (fun h₁ hns hk₁ => ?_) hco hgen hk
  refine wpAny_mono (h s.heap s.heap.objs.size h₁ FG ⟨hns, fun b o e => hk₁ b o e, Nat.le_refl _⟩ (fun p hp => nomatch hp) BG (X₀.keeps st) (T.keeps st)) (fun fl s' hl => ?_) fun _ _ y => y
  obtain ⟨L', m', news', F', N', k⟩ := hl
  exact lv _ _ ⟨L', m', news', F', N', fun kF kN => k kF (fun b o e => F'.keep b o e) kN⟩
end
theorem back_news {h₀ h h' : Heap} {L : Addr} {news new : List (Addr × Obj)} (N : News h₀ L h news) (k : ∀ b o, h.get? b = some o → h'.get? b = some o) (N' : News h₀ L h' new) : News h₀ L h' (new ++ news) := fun p hp => by
  rcases List.mem_append.mp hp with hp | hp
  · exact N' p hp
  · exact ⟨k _ _ (N p hp).1, (N p hp).2⟩
abbrev Gives0 (w : World) (k : Nat) (f : Addr) (pre : Prop) (vs : List Value) (R : Tok → Value) : Prop :=
  ∀ (lo : List Str) (mean : ExcName → Option Value) (mg mb : Str → Option Value) (dp un : Nat) (gd : Option (List Code)) (cn : Str) (cs : Scope) (a : Addr) (ccd : Value) (cl : List (Str × Addr)) (outer : List Env) (A₀ : Around) (base h₀ : Heap) (L : Addr) (m : Str → Option Value) (s : Shared) (Q E : Value → Shared → Prop),
    pre → Below A₀ base outer h₀ → Fr h₀ L s.heap m → (K0 w.params).In h₀ → Top topProg lo mean mg mb h₀ → cs.kind = .function →
    dp + k < recursionLimit → un + 8 * k < cLine →
    (∀ (t : Tok) (h' : Heap) (tk' : Nat), Fr h₀ L h' m → (∀ b o, s.heap.get? b = some o → h'.get? b = some o) → Q (R t) { s with heap := h', toks := tk' }) →
      wpAny (model pr w) (ktrTop dp un gd cn cs L a ccd cl outer) (call (.ref f) vs) Q E s
abbrev GivesPair0 (w : World) (k : Nat) (f : Addr) (pre : Prop) (vs : List Value) (x y : Int) : Prop :=
  ∀ (lo : List Str) (mean : ExcName → Option Value) (mg mb : Str → Option Value) (dp un : Nat) (gd : Option (List Code)) (cn : Str) (cs : Scope) (a : Addr) (ccd : Value) (cl : List (Str × Addr)) (outer : List Env) (A₀ : Around) (base h₀ : Heap) (L : Addr) (m : Str → Option Value) (s : Shared) (Q E : Value → Shared → Prop),
    pre → Below A₀ base outer h₀ → Fr h₀ L s.heap m → (K0 w.params).In h₀ → Top topProg lo mean mg mb h₀ → cs.kind = .function →
    dp + k < recursionLimit → un + 8 * k < cLine →
    (∀ (D : Addr) (t1 t2 : Tok) (h' : Heap) (tk' : Nat), Fr h₀ L h' m → (∀ b o, s.heap.get? b = some o → h'.get? b = some o) → News h₀ L h' [(D, { cls := .type "tuple", data := .seq #[.int x t1, .int y t2] })] → Q (.ref D) { s with heap := h', toks := tk' }) →
      wpAny (model pr w) (ktrTop dp un gd cn cs L a ccd cl outer) (call (.ref f) vs) Q E s
theorem Gives.of0 {w : World} {k : Nat} {f : Addr} {pre : Prop} {vs : List Value} {R : Tok → Value} (C : Gives0 w k f pre vs R) : Gives w k f pre vs R := fun lo mean mg mb news dp un gd cn cs a ccd cl outer A₀ base h₀ L m s Q E hp B F X N T hk hd hu ret =>
  C lo mean mg mb dp un gd cn cs a ccd cl outer A₀ base h₀ L m s Q E hp B F X T hk hd hu fun t h' tk' F' st => ret t h' tk' F' fun p hp => ⟨st _ _ (N p hp).1, (N p hp).2⟩
theorem GivesPair.of0 {w : World} {k : Nat} {f : Addr} {pre : Prop} {vs : List Value} {x y : Int} (C : GivesPair0 w k f pre vs x y) : GivesPair w k f pre vs x y := fun lo mean mg mb news dp un gd cn cs a ccd cl outer A₀ base h₀ L m s Q E hp B F X N T hk hd hu ret =>
  C lo mean mg mb dp un gd cn cs a ccd cl outer A₀ base h₀ L m s Q E hp B F X T hk hd hu fun D t1 t2 h' tk' F' st N' => ret D t1 t2 h' tk' F' (back_news N st N')
end
section
theorem top_offP2 : True := by
  w_top off
  k_with_none
  exact True.intro
theorem words_P2 : True := by
  k_with_none
  k_with "call type:list cons nil" => (k_here; k_dflt (refine list_rg (by rfl) (by k_asm) (by k_asm) (by assumption) (rangeSize_nat _ _) (by omega) ?_); intro D9 us9 c9 h9 tk9 F9 N9 l9 hi9; (try k_lt l9); (try dsimp only); walk_say "LIST RANGE")
  k_with "compareOp In int ref" => (k_here; k_dflt (first | (refine' in_rg (b := true) ?hb ?N ?m ?i ?_; (case N => k_asm); (case m => k_mem); (case i => assumption); (case hb => exact (decide_eq_true (by omega)).symm)) | (refine' in_rg (b := false) ?hb ?N ?m ?i ?_; (case N => k_asm); (case m => k_mem); (case i => assumption); (case hb => exact (decide_eq_false (by omega)).symm))); walk_say "IN ROW")
  k_with "call builtin:list.index cons nil" => (k_here; k_dflt (refine index_rg (by k_asm) (by k_mem) (by assumption) (by omega) (by omega) (by omega) ?_); walk_say "INDEX")
  k_with "ite" => (first | (with_reducible refine ite_ff ?_) | (with_reducible refine ite_tt ?_))
  k_with "LeaveW" => (k_dflt (refine' leaveW_ ?k1 ?k2 ?_; (case k1 => k_asm); (case k2 => k_asm); k_whole); intro kF kK kN; (try dsimp only))
  exact True.intro
theorem lp_A (w : World) (code first second many : Int) (t t1 t2 t3 : Tok) : GivesPair0 w 12 388 ((1 ≤ many ∧ many ≤ 6) ∧ (first ≤ code ∧ code < first + many)) [.int code t, .int first t1, .int second t2, .int many t3] (code - first) 32 := by
  unfold GivesPair0 pr
  k_fill
  intro lo mean mg mb dp un gd cn cs a ccd cl outer A₀ base h₀ L m s Q E hpre B F X T hk hdp hun hret
  obtain ⟨hmany, hpre⟩ := hpre
  refine wpAny_call ?_
  k_dflt (refine' code_defW ?k1 ?k2 ?k3 ?k5 ?kA ?kF ?kK ?k6 ?k7 ?k8 ?k9 ?kB ?_ ?c2 ?c3 ?c4 ?c5; (case kA => exact rfl); (case kF => exact rfl); (case kK => assumption); (case k1 => k_asm); (case k2 => k_asm); (case k3 => k_asm); (case k5 => k_asm); (case k6 => k_is); (case k7 => k_is); (case k8 => k_room); (case k9 => exact BindsTo.of_eq rfl); (case c5 => decide); (case kB => exact locs rfl); (case c2 => exact rfl); (case c3 => exact rfl); (case c4 => exact rfl); k_whole; intro g' L' h' FG' F' N' B' X' T'; (try dsimp only); (try k_fold))
  k_steps
  all_goals first | (refine' hret _ _ _ _ _ ?ra ?rs ?rb; (case ra => k_asm); (case rs => with_reducible assumption); (case rb => refine news_pick (by with_reducible assumption) ?hm ?ht; (case hm => repeat (first | exact List.Mem.head _ | apply List.Mem.tail)); (case ht => exact fun p hp => nomatch hp))) | w_report
theorem lp_B (w : World) (code first second many : Int) (t t1 t2 t3 : Tok) : GivesPair0 w 12 388 ((1 ≤ many ∧ many ≤ 6) ∧ ¬ (first ≤ code ∧ code < first + many) ∧ (second ≤ code ∧ code < second + many)) [.int code t, .int first t1, .int second t2, .int many t3] (code - second) 64 := by
  unfold GivesPair0 pr
  k_fill
  intro lo mean mg mb dp un gd cn cs a ccd cl outer A₀ base h₀ L m s Q E hpre B F X T hk hdp hun hret
  obtain ⟨hmany, hpre⟩ := hpre
  refine wpAny_call ?_
  k_dflt (refine' code_defW ?k1 ?k2 ?k3 ?k5 ?kA ?kF ?kK ?k6 ?k7 ?k8 ?k9 ?kB ?_ ?c2 ?c3 ?c4 ?c5; (case kA => exact rfl); (case kF => exact rfl); (case kK => assumption); (case k1 => k_asm); (case k2 => k_asm); (case k3 => k_asm); (case k5 => k_asm); (case k6 => k_is); (case k7 => k_is); (case k8 => k_room); (case k9 => exact BindsTo.of_eq rfl); (case c5 => decide); (case kB => exact locs rfl); (case c2 => exact rfl); (case c3 => exact rfl); (case c4 => exact rfl); k_whole; intro g' L' h' FG' F' N' B' X' T'; (try dsimp only); (try k_fold))
  k_steps
  all_goals first | (refine' hret _ _ _ _ _ ?ra ?rs ?rb; (case ra => k_asm); (case rs => with_reducible assumption); (case rb => refine news_pick (by with_reducible assumption) ?hm ?ht; (case hm => repeat (first | exact List.Mem.head _ | apply List.Mem.tail)); (case ht => exact fun p hp => nomatch hp))) | w_report
theorem lp_N (w : World) (code first second many : Int) (t t1 t2 t3 : Tok) : Gives0 w 12 388 ((1 ≤ many ∧ many ≤ 6) ∧ ¬ (first ≤ code ∧ code < first + many) ∧ ¬ (second ≤ code ∧ code < second + many)) [.int code t, .int first t1, .int second t2, .int many t3] (fun _ => .none) := by
  unfold Gives0 pr
  k_fill
  intro lo mean mg mb dp un gd cn cs a ccd cl outer A₀ base h₀ L m s Q E hpre B F X T hk hdp hun hret
  obtain ⟨hmany, hpre⟩ := hpre
  refine wpAny_call ?_
  k_dflt (refine' code_defW ?k1 ?k2 ?k3 ?k5 ?kA ?kF ?kK ?k6 ?k7 ?k8 ?k9 ?kB ?_ ?c2 ?c3 ?c4 ?c5; (case kA => exact rfl); (case kF => exact rfl); (case kK => assumption); (case k1 => k_asm); (case k2 => k_asm); (case k3 => k_asm); (case k5 => k_asm); (case k6 => k_is); (case k7 => k_is); (case k8 => k_room); (case k9 => exact BindsTo.of_eq rfl); (case c5 => decide); (case kB => exact locs rfl); (case c2 => exact rfl); (case c3 => exact rfl); (case c4 => exact rfl); k_whole; intro g' L' h' FG' F' N' B' X' T'; (try dsimp only); (try k_fold))
  k_steps
  all_goals first | (refine' hret 0 _ _ ?e2 ?e3; (case e2 => k_asm); (case e3 => with_reducible assumption)) | w_report
end
section
section
variable {prog : Program} {w : World} {A : Around} {E : Value → Shared → Prop} {s : Shared} {h₀ : Heap} {L r : Addr} {m : Str → Option Value} {news : List (Addr × Obj)} {e : Int} {t₀ u₀ v₀ : Tok} {n : Nat}
theorem list_two' {Q : Value → Shared → Prop} (hh : A.handled = none) (F : Fr h₀ L s.heap m) (N : News h₀ L s.heap news) (hr : IsRange s.heap r (63 + Int.fmod e 2) 202 2 t₀ u₀ v₀)
    (h : ∀ D us a rest c h' tk, 63 ≤ a → a ≤ 64 → Fr h₀ L h' m → News h₀ L h' ((D, listOf (List.toArray us) c) :: news) → (∀ p ∈ news, p.1 < D) → IntsAre us (a :: rest) → us.length ≤ 70 → Q (.ref D) { s with heap := h', toks := tk }) :
    wpAny (model prog w) A (call (.type "list") [.ref r]) Q E s :=
  have l1 := fmod_lo e (n := 2) (by decide)
  have l2 := fmod_hi e (n := 2) (by decide)
  list_two hh F N hr (by omega) (by omega) fun D us rest c h' tk F' N' l hi hl => h D us _ rest c h' tk (by omega) (by omega) F' N' l hi hl
variable {env : Env} {x : Str} {body : List Stmt} {Q : Flow → Shared → Prop} {m₀ : Str → Option Value}
/-- the end of a turn of the first loop -/
def Post1 (h₀ : Heap) (L : Addr) (m₀ : Str → Option Value) (x : Str) (own : List (Addr × Obj)) (s : Shared) (Q : Flow → Shared → Prop) (f : Flow) (s₂ : Shared) : Prop :=
  match f with
  | .ret v => Q (.ret v) s₂
  | .brk => Q .next s₂
  | _ => ∃ h' tk u c1 c2 oc1 oc2, s₂ = { s with heap := h', toks := tk } ∧ Full oc1 oc2 ∧ Fr h₀ L h' (fun y => if y = x then u else m₀ y) ∧ News h₀ L h' (own ++ [(376, tabF c1 c2), (c1, oc1), (c2, oc2)])
theorem Post1.next {L : Addr} {own : List (Addr × Obj)} {h' : Heap} {tk : Nat} {u : Option Value} {c1 c2 : Addr} {oc1 oc2 : Obj} (hf : Full oc1 oc2) (F : Fr h₀ L h' (fun y => if y = x then u else m₀ y)) (N : News h₀ L h' ((376, tabF c1 c2) :: (c1, oc1) :: (c2, oc2) :: own)) :
    Post1 h₀ L m₀ x own s Q .next { s with heap := h', toks := tk } := ⟨h', tk, u, c1, c2, oc1, oc2, rfl, hf, F, fun p hp => N p (by
      rcases List.mem_append.mp hp with hp | hp
      · exact .tail _ (.tail _ (.tail _ hp))
      · rcases List.mem_cons.mp hp with rfl | hp
        · exact .head _
        rcases List.mem_cons.mp hp with rfl | hp
        · exact .tail _ (.head _)
        · rw [List.mem_singleton.mp hp]
          exact .tail _ (.tail _ (.head _)))⟩
def Tab1 (i : Nat) (news : List (Addr × Obj)) : Prop := (i = 0 ∧ news = [(376, tabObj #[])]) ∨ (0 < i ∧ ∃ c1 c2 oc1 oc2, Full oc1 oc2 ∧ news = [(376, tabF c1 c2), (c1, oc1), (c2, oc2)])
theorem loop1 {l : Addr} {us : List Value} {c : Nat} {a : Int} {rest : List Int} (hh : A.handled = none) (F : Fr h₀ env.locals s.heap m₀) (N : News h₀ env.locals s.heap news) (hm : (l, listOf us.toArray c) ∈ news) (ht : (376, tabObj #[]) ∈ news) (hi : IntsAre us (a :: rest))
    (turn0 : ∀ t h tk own, (∀ p ∈ own, p.1 ≠ 376) → Fr h₀ env.locals h (fun y => if y = x then some (.int a t) else m₀ y) → News h₀ env.locals h ((376, tabObj #[]) :: own) →
      wpAny (model prog w) A (execs body env) (Post1 h₀ env.locals m₀ x own { s with heap := h, toks := tk } Q) E { s with heap := h, toks := tk })
    (turn1 : ∀ k t c1 c2 oc1 oc2 h tk own, Full oc1 oc2 → Fr h₀ env.locals h (fun y => if y = x then some (.int k t) else m₀ y) → News h₀ env.locals h ((376, tabF c1 c2) :: (c1, oc1) :: (c2, oc2) :: own) →
      wpAny (model prog w) A (execs body env) (Post1 h₀ env.locals m₀ x own { s with heap := h, toks := tk } Q) E { s with heap := h, toks := tk })
    (done : ∀ u c1 c2 oc1 oc2 h tk, Full oc1 oc2 → Fr h₀ env.locals h (fun y => if y = x then u else m₀ y) → News h₀ env.locals h [(376, tabF c1 c2), (c1, oc1), (c2, oc2)] → Q .next { s with heap := h, toks := tk }) :
    wpAny (model prog w) A (pyIter (.ref l)) (fun it s₂ => LoopAtV prog w A h₀ env x body Q E it s₂) E s := by
  have hax := N _ hm
  have hl : s.heap.IsList l us.toArray := ⟨_, hax.1, rfl, _, rfl⟩
  have hlt : l < s.heap.objs.size := Heap.lt_size hax.1
  have hne : l ≠ s.heap.objs.size := Nat.ne_of_lt hlt
  have hl376 : l ≠ 376 := fun q => by
    have h1 := (N _ ht).1
    have h2 := hax.1
    dsimp only at h1 h2
    rw [q, h1] at h2
    cases h2
  refine wpAny_pyIter_list hl ?_
  have W := Walks.list (prog := prog) (w := w) hh s.heap.objs.size l hne us.toArray
  refine ⟨_, _, _, _, _, _, m₀, [(376, tabObj #[])], fun i m₁ nw => (∀ y, y ≠ x → m₁ y = m₀ y) ∧ Tab1 i nw, rfl, W, ?_, ?_, ?_, ⟨⟨_, Heap.get?_push_size _ rfl, rfl, rfl⟩, hl.at fun o e => Heap.get?_push_of_some _ e⟩, F.push _, (fun p hp => ?_), ⟨fun _ _ => rfl, .inl ⟨rfl, rfl⟩⟩, ?_, ?_⟩
  · intro hI
    rcases List.mem_cons.mp hI with q | hI
    · exact absurd F.ns.lt (q ▸ Nat.lt_irrefl _)
    · exact hax.2.1 (List.mem_singleton.mp hI).symm
  · intro b hb
    rw [List.mem_singleton.mp hb]
    exact next_is_new F
  · intro p hp hI
    rw [List.mem_singleton.mp hp] at hI
    exact absurd (Heap.lt_size (N _ ht).1) (by rw [List.mem_singleton.mp hI]; exact Nat.lt_irrefl _)
  · rw [List.mem_singleton.mp hp]
    exact ⟨Heap.get?_push_of_some _ (N _ ht).1, (N _ ht).2⟩
  · rintro i v m₁ nw s₁ own ⟨h', tk', rfl⟩ hin hP ⟨hm₁, hT⟩ hoff hown hval hall st₁ F₁ N₁
    have hlen : us.length = (a :: rest).length := hi.length
    have hin' : i < us.length := by simpa using hin
    obtain ⟨k, t, rfl, hk⟩ : ∃ k t, v = .int k t ∧ (a :: rest)[i]? = some k := by
      have hP' : us[i]? = some v := by simpa using hP
      obtain ⟨k, t, e, hk⟩ := IntsAre.at hi i v hP'
      exact ⟨k, t, e, hk⟩
    have em : (fun y => if y = x then some (Value.int k t) else m₁ y) = fun y => if y = x then some (Value.int k t) else m₀ y := by
      funext y
      by_cases hy : y = x
      · simp [hy]
      · simp only [if_neg hy]
        exact hm₁ y hy
    rw [em] at F₁
    have o376 : ∀ p ∈ own, p.1 ≠ 376 := fun p hp q => by
      rcases List.mem_cons.mp (hown p hp) with z | z
      · have : (376 : Addr) < s.heap.objs.size := Heap.lt_size (N _ ht).1
        rw [← q, z] at this
        exact Nat.lt_irrefl _ this
      · exact hl376 ((List.mem_singleton.mp z).symm.trans q)
    have fin : ∀ s₂ f, Post1 h₀ env.locals m₀ x own { s with heap := h', toks := tk' } Q f s₂ → LoopStepV h₀ env.locals [s.heap.objs.size] own (fun m₁ nw => (∀ y, y ≠ x → m₁ y = m₀ y) ∧ Tab1 (i + 1) nw) { s with heap := h', toks := tk' } (fun v s' => Q (.ret v) s') (fun s' => Q .next s') f s₂ := by
      intro s₂ f hp
      have nx : (∃ h'' tk u c1 c2 oc1 oc2, s₂ = { s with heap := h'', toks := tk } ∧ Full oc1 oc2 ∧ Fr h₀ env.locals h'' (fun y => if y = x then u else m₀ y) ∧ News h₀ env.locals h'' (own ++ [(376, tabF c1 c2), (c1, oc1), (c2, oc2)])) →
          LoopStepU h₀ env.locals [s.heap.objs.size] own (fun m₁ nw => (∀ y, y ≠ x → m₁ y = m₀ y) ∧ Tab1 (i + 1) nw) { s with heap := h', toks := tk' } .next s₂ := by
        rintro ⟨h'', tk, u, c1, c2, oc1, oc2, rfl, hfu, F', N'⟩
        refine ⟨rfl, h'', tk, _, [(376, tabF c1 c2), (c1, oc1), (c2, oc2)], rfl, F', N', ?_, fun y hy => by simp [hy], .inr ⟨Nat.succ_pos i, c1, c2, oc1, oc2, hfu, rfl⟩⟩
        obtain ⟨oI, gI, _, dI⟩ := st₁.1
        have mI : (s.heap.objs.size, oI) ∈ own := hall _ (.head _) (next_is_new F) oI gI
        have off : ∀ (cx : Addr) (ox : Obj), (∃ vs t, ox.data = .fields vs ∧ vs[1]? = some (.str lamQ t)) → (cx, ox) ∈ own ++ [(376, tabF c1 c2), (c1, oc1), (c2, oc2)] → cx ≠ s.heap.objs.size := by
          rintro cx ox ⟨vs, t, hd', hv⟩ hx q
          have h1 := (N' _ (List.mem_append_left _ mI)).1
          have h2 := (N' _ hx).1
          dsimp only at h1 h2
          rw [q, h1] at h2
          cases h2
          rw [dI] at hd'
          cases hd'
          simp at hv
        intro p hp hI
        have hI' := List.mem_singleton.mp hI
        rcases List.mem_cons.mp hp with rfl | hp
        · exact absurd (Heap.lt_size (N _ ht).1) (by rw [show (376 : Addr) = s.heap.objs.size from hI']; exact Nat.lt_irrefl _)
        rcases List.mem_cons.mp hp with rfl | hp
        · exact off _ _ hfu.1 (List.mem_append_right _ (.tail _ (.head _))) hI'
        · rw [List.mem_singleton.mp hp] at hI'
          exact off _ _ hfu.2 (List.mem_append_right _ (.tail _ (.tail _ (.head _)))) hI'
      cases f with
      | ret v => exact .ret hp
      | brk => exact .brk hp
      | next => exact .next (nx hp)
      | cont => exact .cont (nx hp)
    refine wpAny_mono ?_ (fun f s₂ hp => fin s₂ f hp) fun _ _ q => q
    rcases hT with ⟨rfl, rfl⟩ | ⟨hpos, c1, c2, oc1, oc2, hfu, rfl⟩
    · have ek : a = k := by simpa using hk
      subst ek
      refine turn0 t h' tk' own o376 F₁ fun p hp => N₁ p ?_
      rcases List.mem_cons.mp hp with rfl | hp
      · exact List.mem_append_right _ (.head _)
      · exact List.mem_append_left _ hp
    · refine turn1 k t c1 c2 oc1 oc2 h' tk' own hfu F₁ fun p hp => N₁ p ?_
      rcases List.mem_cons.mp hp with rfl | hp
      · exact List.mem_append_right _ (.head _)
      rcases List.mem_cons.mp hp with rfl | hp
      · exact List.mem_append_right _ (.tail _ (.head _))
      rcases List.mem_cons.mp hp with rfl | hp
      · exact List.mem_append_right _ (.tail _ (.tail _ (.head _)))
      · exact List.mem_append_left _ hp
  · rintro h' tk m' nw F' N' _ ⟨hm', hT⟩
    have hs : us.toArray.size = rest.length + 1 := by rw [List.size_toArray, hi.length]; rfl
    rcases hT with ⟨h0, _⟩ | ⟨_, c1, c2, oc1, oc2, hfu, rfl⟩
    · omega
    · have em : m' = fun y => if y = x then m' x else m₀ y := by
        funext y
        by_cases hy : y = x
        · simp [hy]
        · simp only [if_neg hy]
          exact hm' y hy
      rw [em] at F'
      exact done _ c1 c2 oc1 oc2 h' tk hfu F' N'
end
end
section
section
variable {prog : Program} {w : World} {A : Around} {E : Value → Shared → Prop} {s : Shared} {h₀ : Heap} {env : Env} {x z : Str} {body : List Stmt} {Q : Flow → Shared → Prop} {m₀ : Str → Option Value} {news : List (Addr × Obj)}
/-- the end of a turn that changes two names and keeps the ledger -/
def Post2 (h₀ : Heap) (L : Addr) (m₀ : Str → Option Value) (x z : Str) (nw : List (Addr × Obj)) (s : Shared) (Q : Flow → Shared → Prop) (f : Flow) (s₂ : Shared) : Prop :=
  match f with
  | .ret v => Q (.ret v) s₂
  | .brk => Q .next s₂
  | _ => ∃ h' tk u u', s₂ = { s with heap := h', toks := tk } ∧ Fr h₀ L h' (fun y => if y = x then u else if y = z then u' else m₀ y) ∧ News h₀ L h' nw
theorem Post2.next {L : Addr} {nw big : List (Addr × Obj)} {h' : Heap} {tk : Nat} {u u' : Option Value} (F : Fr h₀ L h' (fun y => if y = x then u else if y = z then u' else m₀ y)) (N : News h₀ L h' big) (hs : ∀ p ∈ nw, p ∈ big) :
    Post2 h₀ L m₀ x z nw s Q .next { s with heap := h', toks := tk } := ⟨h', tk, u, u', rfl, F, fun p hp => N p (hs p hp)⟩
theorem fr_two {L : Addr} {h : Heap} {u1 u2 u3 u4 : Option Value} (hxz : x ≠ z) (F : Fr h₀ L h (fun y => if y = z then u1 else if y = z then u2 else if y = x then u3 else if y = z then u4 else m₀ y)) : Fr h₀ L h (fun y => if y = x then u3 else if y = z then u1 else m₀ y) := by
  have e : (fun y => if y = z then u1 else if y = z then u2 else if y = x then u3 else if y = z then u4 else m₀ y) = fun y => if y = x then u3 else if y = z then u1 else m₀ y := by
    funext y
    by_cases h1 : y = z
    · subst h1
      simp [Ne.symm hxz]
    · simp [h1]
  rw [← e]
  exact F
theorem loop_plain {I : Addr} {fp : List Addr} {n : Nat} {P : Nat → Value → Prop} {St : Nat → Heap → Prop} (W : Walks prog w A I fp [I] n P St) (hL : env.locals ∉ fp) (hI₀ : h₀.get? I = none) (hnI : ∀ p ∈ news, p.1 ≠ I) (st : St 0 s.heap)
    (F : Fr h₀ env.locals s.heap m₀) (N : News h₀ env.locals s.heap news)
    (turn : ∀ i v u' h tk nw, i < n → P i v → (∀ p ∈ news, p ∈ nw) → Fr h₀ env.locals h (fun y => if y = x then some v else if y = z then u' else m₀ y) → News h₀ env.locals h nw →
      wpAny (model prog w) A (execs body env) (Post2 h₀ env.locals m₀ x z nw { s with heap := h, toks := tk } Q) E { s with heap := h, toks := tk })
    (done : ∀ u u' h tk, Fr h₀ env.locals h (fun y => if y = x then u else if y = z then u' else m₀ y) → News h₀ env.locals h news → Q .next { s with heap := h, toks := tk }) :
    LoopAtV prog w A h₀ env x body Q E (.ref I) s := by
  have norm : ∀ m₁ : Str → Option Value, (∀ y, y ≠ x → y ≠ z → m₁ y = m₀ y) → m₁ = fun y => if y = x then m₁ x else if y = z then m₁ z else m₀ y := fun m₁ hm => by
    funext y
    by_cases h1 : y = x
    · simp [h1]
    · by_cases h2 : y = z
      · by_cases h3 : z = x
        · simp [h2, h3]
        · simp [h2, h3]
      · simp only [if_neg h1, if_neg h2]
        exact hm y h1 h2
  refine ⟨I, fp, [I], n, P, St, m₀, news, fun _ m₁ nw => (∀ y, y ≠ x → y ≠ z → m₁ y = m₀ y) ∧ nw = news, rfl, W, hL, ?_, ?_, st, F, N, ⟨fun _ _ _ => rfl, rfl⟩, ?_, ?_⟩
  · intro b hb
    rw [List.mem_singleton.mp hb]
    exact hI₀
  · exact fun p hp hI => hnI p hp (List.mem_singleton.mp hI)
  · rintro i v m₁ nw s₁ own ⟨h', tk', rfl⟩ hin hP ⟨hm₁, rfl⟩ hoff hown _ _ _ F₁ N₁
    have em : (fun y => if y = x then some v else m₁ y) = fun y => if y = x then some v else if y = z then m₁ z else m₀ y := by
      funext y
      by_cases h1 : y = x
      · simp [h1]
      · by_cases h2 : y = z
        · simp [h2]
        · simp only [if_neg h1, if_neg h2]
          exact hm₁ y h1 h2
    rw [em] at F₁
    refine wpAny_mono (turn i v _ h' tk' _ hin hP (fun p hp => List.mem_append_right own hp) F₁ N₁) (fun f s₂ hp => ?_) fun _ _ q => q
    have nx : (∃ h'' tk u u', s₂ = { s with heap := h'', toks := tk } ∧ Fr h₀ env.locals h'' (fun y => if y = x then u else if y = z then u' else m₀ y) ∧ News h₀ env.locals h'' (own ++ nw)) →
        LoopStepU h₀ env.locals [I] own (fun m₁ nw' => (∀ y, y ≠ x → y ≠ z → m₁ y = m₀ y) ∧ nw' = nw) { s with heap := h', toks := tk' } .next s₂ := by
      rintro ⟨h'', tk, u, u', rfl, F', N'⟩
      exact ⟨rfl, h'', tk, _, nw, rfl, F', N', fun p hp hI => hnI p hp (List.mem_singleton.mp hI), fun y h1 h2 => by simp [h1, h2], rfl⟩
    cases f with
    | ret v => exact .ret hp
    | brk => exact .brk hp
    | next => exact .next (nx hp)
    | cont => exact .cont (nx hp)
  · rintro h' tk m' nw F' N' _ ⟨hm', rfl⟩
    rw [norm m' hm'] at F'
    exact done _ _ h' tk F' N'
variable {r : Addr} {a b : Int} {t₀ u₀ v₀ : Tok} {n : Nat}
/-- a loop over range(a, b), whatever the bounds' size -/
theorem loop_range (hh : A.handled = none) (hr : IsRange s.heap r a b 1 t₀ u₀ v₀) (hn : Builtin.Range.rangeSize a b 1 = (n : Int)) (F : Fr h₀ env.locals s.heap m₀) (N : News h₀ env.locals s.heap news)
    (turn : ∀ k t u' h tk nw, (∀ p ∈ news, p ∈ nw) → Fr h₀ env.locals h (fun y => if y = x then some (.int k t) else if y = z then u' else m₀ y) → News h₀ env.locals h nw →
      wpAny (model prog w) A (execs body env) (Post2 h₀ env.locals m₀ x z nw { s with heap := h, toks := tk } Q) E { s with heap := h, toks := tk })
    (done : ∀ u u' h tk, Fr h₀ env.locals h (fun y => if y = x then u else if y = z then u' else m₀ y) → News h₀ env.locals h news → Q .next { s with heap := h, toks := tk }) :
    wpAny (model prog w) A (pyIter (.ref r)) (fun it s₂ => LoopAtV prog w A h₀ env x body Q E it s₂) E s := by
  have hL : env.locals ∉ [s.heap.objs.size] := fun hm => Nat.lt_irrefl _ (List.mem_singleton.mp hm ▸ F.ns.lt)
  have hN : ∀ p ∈ news, p.1 ≠ s.heap.objs.size := fun p hp => Nat.ne_of_lt (Heap.lt_size (N p hp).1)
  by_cases hs : Builtin.Range.small a b 1 = true
  · refine wpAny_pyIter_range hr hs ?_
    refine loop_plain (s := { s with heap := s.heap.push _ }) (Walks.range (prog := prog) (w := w) (A := A) hh s.heap.objs.size a 1 n) hL (next_is_new F) hN ?_ (F.push _) (fun p hp => ⟨Heap.get?_push_of_some _ (N p hp).1, (N p hp).2⟩) ?_ done
    · show IsRangeIter _ _ _ _ _
      rw [hn]
      simpa using Heap.get?_push_size _ rfl
    · rintro i v u' h tk nw _ ⟨t, rfl⟩ hsub F₁ N₁
      exact turn _ t u' h tk nw hsub F₁ N₁
  · have hb : Builtin.Range.small a b 1 = false := by simpa using hs
    refine wpAny_pyIter_longrange hr hb ?_
    refine loop_plain (s := { s with heap := s.heap.push _ }) (Walks.longrange (prog := prog) (w := w) (A := A) hh s.heap.objs.size a 1 n) hL (next_is_new F) hN ?_ (F.push _) (fun p hp => ⟨Heap.get?_push_of_some _ (N p hp).1, (N p hp).2⟩) ?_ done
    · show IsLongIter _ _ _ _ _
      rw [hn]
      simpa using Heap.get?_push_size _ rfl
    · rintro i v u' h tk nw _ ⟨t, rfl⟩ hsub F₁ N₁
      exact turn _ t u' h tk nw hsub F₁ N₁
/-- a loop over a pair of ints -/
theorem loop_pair {T : Addr} {k1 k2 : Int} {t1 t2 : Tok} (hh : A.handled = none) (F : Fr h₀ env.locals s.heap m₀) (N : News h₀ env.locals s.heap news) (hm : (T, ({ cls := .type "tuple", data := .seq #[.int k1 t1, .int k2 t2] } : Obj)) ∈ news)
    (turn : ∀ k t u' h tk nw, (∀ p ∈ news, p ∈ nw) → Fr h₀ env.locals h (fun y => if y = x then some (.int k t) else if y = z then u' else m₀ y) → News h₀ env.locals h nw →
      wpAny (model prog w) A (execs body env) (Post2 h₀ env.locals m₀ x z nw { s with heap := h, toks := tk } Q) E { s with heap := h, toks := tk })
    (done : ∀ u u' h tk, Fr h₀ env.locals h (fun y => if y = x then u else if y = z then u' else m₀ y) → News h₀ env.locals h news → Q .next { s with heap := h, toks := tk }) :
    wpAny (model prog w) A (pyIter (.ref T)) (fun it s₂ => LoopAtV prog w A h₀ env x body Q E it s₂) E s := by
  have hax := N _ hm
  have hl : s.heap.IsTuple T #[.int k1 t1, .int k2 t2] := ⟨_, hax.1, rfl, _, rfl⟩
  have hlt : T < s.heap.objs.size := Heap.lt_size hax.1
  refine wpAny_pyIter_tuple hl ?_
  refine loop_plain (s := { s with heap := s.heap.push _ }) (Walks.tuple (prog := prog) (w := w) (A := A) hh s.heap.objs.size T (Nat.ne_of_lt hlt) #[.int k1 t1, .int k2 t2]) (fun hI => ?_) (next_is_new F) (fun p hp => Nat.ne_of_lt (Heap.lt_size (N p hp).1))
    ⟨⟨_, Heap.get?_push_size _ rfl, rfl, rfl⟩, hl.at fun o e => Heap.get?_push_of_some _ e⟩ (F.push _) (fun p hp => ⟨Heap.get?_push_of_some _ (N p hp).1, (N p hp).2⟩) ?_ done
  · rcases List.mem_cons.mp hI with q | hI
    · exact absurd F.ns.lt (q ▸ Nat.lt_irrefl _)
    · exact hax.2.1 (List.mem_singleton.mp hI).symm
  · intro i v u' h tk nw hin hv hsub F₁ N₁
    obtain ⟨k, t, rfl⟩ : ∃ k t, v = .int k t := by
      rcases i with _ | _ | i
      · exact ⟨k1, t1, by simpa using hv.symm⟩
      · exact ⟨k2, t2, by simpa using hv.symm⟩
      · simp at hv
    exact turn k t u' h tk nw hsub F₁ N₁
end
end
section
theorem top_offL3 : True := by
  w_top off
  k_with_none
  exact True.intro
theorem x_ok (a : Int) : 0 ≤ Int.fmod a 4294967296 ∧ Int.fmod a 4294967296 < 4294967296 := ⟨fmod_lo a (by decide), fmod_hi a (by decide)⟩
theorem many_ok (a : Int) : 1 ≤ 1 + Int.fmod a 6 ∧ 1 + Int.fmod a 6 ≤ 6 := by
  have l1 := fmod_lo a (n := 6) (by decide)
  have l2 := fmod_hi a (n := 6) (by decide)
  omega
theorem facts0 {code : Int} (h1 : 63 ≤ code) (h2 : code ≤ 64) : ¬ T1 code ∧ ¬ T2 code ∧ ¬ Dv code ∧ ¬ Narrow code := by
  unfold T1 T2 Dv Narrow
  omega
theorem cre_use {w : World} {code x : Int} {t u : Tok} {lo : List Str} {mean : ExcName → Option Value} {mg mb : Str → Option Value} {news : List (Addr × Obj)} {dp un : Nat} {gd : Option (List Code)} {cn : Str} {cs : Scope} {a : Addr} {ccd : Value} {A₀ : Around} {base h₀ : Heap} {L : Addr} {m : Str → Option Value} {s : Shared} {Q E : Value → Shared → Prop}
    (h1 : 63 ≤ code) (h2 : code ≤ 64) (hx : 0 ≤ x ∧ x < 4294967296) (B : Below A₀ base [] h₀) (F : Fr h₀ L s.heap m) (X : (K0 w.params).In h₀) (N : News h₀ L s.heap ((376, tabObj #[]) :: news)) (T : Top topProg lo mean mg mb h₀) (CH : CodeHd base 380 376) (hnt : ∀ p ∈ news, p.1 ≠ 376) (XB : (K0 w.params).In base) (TB : Top topProg lo mean mg mb base) (hk : cs.kind = .function)
    (hd : dp + 20 < recursionLimit) (hu : un + 160 < cLine)
    (ret : ∀ (c1 c2 : Addr) (oc1 oc2 : Obj) (h' : Heap) (tk' : Nat), Full oc1 oc2 → Fr h₀ L h' m → News h₀ L h' ((376, tabF c1 c2) :: (c1, oc1) :: (c2, oc2) :: news) → Q (.bool true) { s with heap := h', toks := tk' }) :
      wpAny (model pr w) (ktrTop dp un gd cn cs L a ccd [] []) (call (.ref 381) [.int code t, .int x u]) Q E s :=
  cr_T0_e w code x t u lo mean mg mb news dp un gd cn cs a ccd A₀ base h₀ L m s Q E (facts0 h1 h2) hx B F X N T CH hnt XB TB hk hd hu ret
theorem crf_use {w : World} {code x : Int} {t u : Tok} {lo : List Str} {mean : ExcName → Option Value} {mg mb : Str → Option Value} {news : List (Addr × Obj)} {c1 c2 : Addr} {oc1 oc2 : Obj} {dp un : Nat} {gd : Option (List Code)} {cn : Str} {cs : Scope} {a : Addr} {ccd : Value} {A₀ : Around} {base h₀ : Heap} {L : Addr} {m : Str → Option Value} {s : Shared} {Q E : Value → Shared → Prop}
    (hf : Full oc1 oc2) (hx : 0 ≤ x ∧ x < 4294967296) (B : Below A₀ base [] h₀) (F : Fr h₀ L s.heap m) (X : (K0 w.params).In h₀) (N : News h₀ L s.heap ((376, tabF c1 c2) :: (c1, oc1) :: (c2, oc2) :: news)) (T : Top topProg lo mean mg mb h₀) (CH : CodeHd base 380 376) (XB : (K0 w.params).In base) (TB : Top topProg lo mean mg mb base) (hk : cs.kind = .function)
    (hd : dp + 20 < recursionLimit) (hu : un + 160 < cLine)
    (ret : ∀ (h' : Heap) (tk' : Nat), Fr h₀ L h' m → News h₀ L h' ((376, tabF c1 c2) :: (c1, oc1) :: (c2, oc2) :: news) → Q (.bool true) { s with heap := h', toks := tk' }) :
      wpAny (model pr w) (ktrTop dp un gd cn cs L a ccd [] []) (call (.ref 381) [.int code t, .int x u]) Q E s :=
  cr_full w code x t u lo mean mg mb news c1 c2 oc1 oc2 dp un gd cn cs a ccd A₀ base h₀ L m s Q E hf hx B F X N T CH XB TB hk hd hu ret
local macro_rules | `(tactic| k_room) => `(tactic| ((try simp only [depth_under_make, depth_under_kw, depth_in1, depth_deeper, depth_caller]); (try dsimp only [ktrTop]); first | decide | omega))
theorem words_L3 : True := by
  k_with_none
  k_with "call type:list cons nil" => (k_here; k_dflt (refine list_two' (by rfl) (by k_asm) (by k_asm) (by assumption) ?_); intro D9 us9 a9 ns9 c9 h9 tk9 ha9 hb9 F9 N9 l9 hi9 hlen9; (try k_lt l9); (try dsimp only); walk_say "LIST TWO")
  k_with "exec For Name BinOp cons nil" => (k_here; (rename Fr _ _ _ _ => lF'); (k_dflt (refine For_invVF lF' (by rfl) (by rfl) ?_)); walk_say "FOR")
  k_with "exec For Name Tuple cons nil" => (k_here; (rename Fr _ _ _ _ => lF'); (k_dflt (refine For_invVF lF' (by rfl) (by rfl) ?_)); walk_say "FOR")
  k_with "exec For Name Call cons nil" => (k_here; (rename Fr _ _ _ _ => lF'); (k_dflt (refine For_invVF lF' (by rfl) (by rfl) ?_)); walk_say "FOR")
  k_with "call ref cons nil" => (k_here; k_dflt ((first | (refine' GivesPair.use (GivesPair.of0 (lp_A _ _ _ _ _ _ _ _ _)) ?kp ?k1 ?k2 ?k3 ?k4 ?k5 ?kK ?kd ?ku ?_; (case kp => exact ⟨many_ok _, by with_reducible assumption⟩); (case k1 => k_asm); (case k2 => k_asm); (case k3 => k_asm); (case k4 => k_asm); (case k5 => k_asm); (case kK => first | exact rfl | assumption); (case kd => k_room); (case ku => k_units); intro D9 t8 t9 h9 tk9 F9 N9) | (refine' GivesPair.use (GivesPair.of0 (lp_B _ _ _ _ _ _ _ _ _)) ?kp ?k1 ?k2 ?k3 ?k4 ?k5 ?kK ?kd ?ku ?_; (case kp => exact ⟨many_ok _, by with_reducible assumption⟩); (case k1 => k_asm); (case k2 => k_asm); (case k3 => k_asm); (case k4 => k_asm); (case k5 => k_asm); (case kK => first | exact rfl | assumption); (case kd => k_room); (case ku => k_units); intro D9 t8 t9 h9 tk9 F9 N9) | (refine' Gives.use (Gives.of0 (lp_N _ _ _ _ _ _ _ _ _)) ?kp ?k1 ?k2 ?k3 ?k4 ?k5 ?kK ?kd ?ku ?_; (case kp => exact ⟨many_ok _, by with_reducible assumption⟩); (case k1 => k_asm); (case k2 => k_asm); (case k3 => k_asm); (case k4 => k_asm); (case k5 => k_asm); (case kK => first | exact rfl | assumption); (case kd => k_room); (case ku => k_units); intro t9 h9 tk9 F9 N9)); (try dsimp only); (try k_fold)); walk_say "LAW PLACE")
  k_with "call ref cons nil" => (k_here; (with_reducible show wpAny _ _ (call (Value.ref 306) [Value.int _ _, Value.int _ _, Value.int _ _, Value.int _ _]) _ _ _); (with_reducible refine place_call ?_ ?_ ?_) <;> intro hp9 <;> k_dflt ((first | (refine' GivesPair.use (pl_A _ _ _ _ _ _ _ _ _) ?kp ?k1 ?k2 ?k3 ?k4 ?k5 ?kK ?kd ?ku ?_; (case kp => with_reducible assumption); (case k1 => k_asm); (case k2 => k_asm); (case k3 => k_asm); (case k4 => k_asm); (case k5 => k_asm); (case kK => first | exact rfl | assumption); (case kd => k_room); (case ku => k_units); intro D9 t8 t9 h9 tk9 F9 N9) | (refine' GivesPair.use (pl_B _ _ _ _ _ _ _ _ _) ?kp ?k1 ?k2 ?k3 ?k4 ?k5 ?kK ?kd ?ku ?_; (case kp => with_reducible assumption); (case k1 => k_asm); (case k2 => k_asm); (case k3 => k_asm); (case k4 => k_asm); (case k5 => k_asm); (case kK => first | exact rfl | assumption); (case kd => k_room); (case ku => k_units); intro D9 t8 t9 h9 tk9 F9 N9) | (refine' Gives.use (pl_N _ _ _ _ _ _ _ _ _) ?kp ?k1 ?k2 ?k3 ?k4 ?k5 ?kK ?kd ?ku ?_; (case kp => with_reducible assumption); (case k1 => k_asm); (case k2 => k_asm); (case k3 => k_asm); (case k4 => k_asm); (case k5 => k_asm); (case kK => first | exact rfl | assumption); (case kd => k_room); (case ku => k_units); intro t9 h9 tk9 F9 N9)); (try dsimp only); (try k_fold)); walk_say "PLACE")
  k_with "call ref cons nil" => (k_here; (with_reducible show wpAny _ _ (call (Value.ref 381) _) _ _ _); k_dflt (first | (refine' cre_use ?h1 ?h2 ?hx ?k1 ?k2 ?k3 ?k4 ?k5 ?CH ?hnt ?XB ?TB ?kK ?kd ?ku ?_; (case h1 => assumption); (case h2 => assumption); (case hnt => assumption); (case k1 => k_asm); (case k2 => k_asm); (case k3 => k_asm); (case k4 => k_asm); (case k5 => k_asm); (case CH => kn_code); (case XB => k_asm); (case TB => k_asm); (case kK => exact rfl); (case kd => k_room); (case ku => k_units); (case hx => exact x_ok _); intro c8 c9 o8 o9 h9 tk9 hf9 F9 N9; (try dsimp only); (try k_fold)) | (refine' crf_use ?hf ?hx ?k1 ?k2 ?k3 ?k4 ?k5 ?CH ?XB ?TB ?kK ?kd ?ku ?_; (case hf => assumption); (case k1 => k_asm); (case k2 => k_asm); (case k3 => k_asm); (case k4 => k_asm); (case k5 => k_asm); (case CH => kn_code); (case XB => k_asm); (case TB => k_asm); (case kK => exact rfl); (case kd => k_room); (case ku => k_units); (case hx => exact x_ok _); intro h9 tk9 F9 N9; (try dsimp only); (try k_fold))); walk_say "CODE RIGHT")
  k_with "pyIter ref" => (k_here; (rename Fr _ _ _ _ => lF'); (rename News _ _ _ _ => lN'); k_dflt (first | (refine' loop1 (by rfl) lF' lN' ?m1 ?m2 ?hi (fun t9 h9 tk9 own9 ho9 F9 N9 => ?_) (fun k9 t9 c8 c9 o8 o9 h9 tk9 own9 hf9 F9 N9 => ?_) (fun u9 c8 c9 o8 o9 h9 tk9 hf9 F9 N9 => ?_); (case m1 => k_mem); (case m2 => k_mem); (case hi => exact IntsAre.append (by assumption) (.cons _ _ (.cons _ _ .nil)))) | (refine' loop_range (z := Str.ofString "code") (by rfl) (by assumption) (rangeSize_nat _ _) lF' lN' (fun k9 t9 u9 h9 tk9 nw9 hs9 F9 N9 => ?_) (fun u9 v9 h9 tk9 F9 N9 => ?_)) | (refine' loop_pair (z := Str.ofString "code") (by rfl) lF' lN' ?m1 (fun k9 t9 u9 h9 tk9 nw9 hs9 F9 N9 => ?_) (fun u9 v9 h9 tk9 F9 N9 => ?_); (case m1 => k_mem))); (all_goals (try dsimp only)); (all_goals (try k_fold)); walk_say "LOOP")
  k_with "Post1" => (k_dflt (refine Post1.next (by assumption) (by k_asm) (by k_asm)); walk_say "END1")
  k_with "Post2" => (k_dflt ((first | refine Post2.next (by k_asm) (by k_asm) ?_ | refine Post2.next (fr_two (by decide) (by k_asm)) (by k_asm) ?_); intro p hp; (repeat (first | exact hp | apply List.Mem.tail))); walk_say "END2")
  k_with "compareOp NotEq ref ref" => (k_here; k_dflt (refine ne_dataH (by ke_read) (by ke_read) (by ke_shaped) (by ke_shaped) (by k_units) ?_); ke_norm; walk_say "NE")
  k_with "callWith ref nil nil" => (k_here; k_dflt (refine' callWith_K ?k1 ?k2 ?_; (case k1 => k_asm); (case k2 => k_is); k_whole); walk_say "CW")
  k_with "ite" => (first | (with_reducible refine ite_ff ?_) | (with_reducible refine ite_tt ?_))
  exact True.intro
theorem frag_to {K K' : Params → Frag} {P : Params} {g : Heap} (X : (K P).In g) (h : ∀ P, (K' P).map (fun q => (K P).lookup q.1) = (K' P).map fun q => some q.2) : (K' P).In g := frag_sub h X
theorem fill_k0 (w : World) (h : Heap) : (K0 w.params).In h → PySem.Challenge.rw_nm0125_01.row.prog = PySem.Challenge.rw_nm0125_01.row.prog := by
  k_fill
  intro _
  rfl
/-! names of mine that are taken: the head then lays no second copy of the heaps and trees that it writes (their copies alone would be 35 MB) -/
theorem law_holds.tw3100003020070786208 : True := True.intro
theorem law_holds.tw5389484754426515990 : True := True.intro
theorem law_holds.tw10644693139401533563 : True := True.intro
theorem law_holds.tw4485365951123398659 : True := True.intro
theorem law_holds.tw4651551266919983907 : True := True.intro
theorem law_holds.tw15759456685926392790 : True := True.intro
theorem law_holds.tw3908504741095108671 : True := True.intro
theorem law_holds.tw6700112342534006690 : True := True.intro
theorem law_holds.tw10983241140555628109 : True := True.intro
theorem law_holds.tw7545375339591397653 : True := True.intro
theorem law_holds.tw5415088609745570971 : True := True.intro
theorem law_holds.tw11097158420108258118 : True := True.intro
theorem law_holds.tw15472126771306010800 : True := True.intro
theorem law_holds.tw15014403891855920072 : True := True.intro
theorem law_holds.tw1721165116777925873 : True := True.intro
theorem law_holds.tw12116493165278983582 : True := True.intro
theorem law_holds.tw6969255593111687635 : True := True.intro
theorem law_holds.tw12139626902880633087 : True := True.intro
theorem law_holds.tw17533444620322135691 : True := True.intro
theorem law_holds.tw3595789414353437717 : True := True.intro
theorem law_holds.tw8040771413219435098 : True := True.intro
theorem law_holds.tw17180001009569633970 : True := True.intro
theorem law_holds.tw17612368028998920212 : True := True.intro
theorem law_holds.tw6881874429007886204 : True := True.intro
theorem law_holds.tw17899081815984039989 : True := True.intro
theorem law_holds.tw4833173496992025938 : True := True.intro
theorem law_holds.tw17598101756349436640 : True := True.intro
theorem law_holds.tw16873799427995575018 : True := True.intro
theorem law_holds.tw8786122383778125906 : True := True.intro
theorem law_holds.tw1791086108937442324 : True := True.intro
theorem law_holds.tw9606376775287448836 : True := True.intro
theorem law_holds.tw4995542688137877417 : True := True.intro
theorem law_holds.tw576407869801174206 : True := True.intro
theorem law_holds.tw11426015686315989412 : True := True.intro
theorem law_holds.tw13190408463805328480 : True := True.intro
theorem law_holds.tw6629495429873386292 : True := True.intro
theorem law_holds.tw850272041215511910 : True := True.intro
theorem law_holds.tw1385162719727133579 : True := True.intro
theorem law_holds.tw1335265377702380343 : True := True.intro
theorem law_holds.tw8417186165934385351 : True := True.intro
theorem law_holds.tw3974387499553966400 : True := True.intro
theorem law_holds.tw15272395603832836080 : True := True.intro
theorem law_holds.tw7019463264422422977 : True := True.intro
theorem law_holds.tw2139172203440323022 : True := True.intro
theorem law_holds.tw16009327648451700120 : True := True.intro
theorem law_holds.tw5117662029339320154 : True := True.intro
theorem law_holds.tw3005452535816212104 : True := True.intro
theorem law_holds.tw1778412455037948541 : True := True.intro
theorem law_holds.tw10108825076125807744 : True := True.intro
theorem law_holds.tw3033269912633744064 : True := True.intro
theorem law_holds.tw10371022188087798493 : True := True.intro
theorem law_holds.tw7120836010843673076 : True := True.intro
theorem law_holds.tw18090433342136740992 : True := True.intro
theorem law_holds.tw16273140198857503625 : True := True.intro
theorem law_holds.tw15274831704391544125 : True := True.intro
theorem law_holds.tw16947615914383616782 : True := True.intro
theorem law_holds.tw11133525997344109421 : True := True.intro
theorem law_holds.tw12977093529070104392 : True := True.intro
theorem law_holds.tw9069877914133315304 : True := True.intro
theorem law_holds.tw18254337876149969668 : True := True.intro
theorem law_holds.tw11690447701083486646 : True := True.intro
theorem law_holds.tw16978406815995349258 : True := True.intro
theorem law_holds.tw13402424001964919149 : True := True.intro
theorem law_holds.tw784011647948385275 : True := True.intro
theorem law_holds.tw14385925486924208373 : True := True.intro
theorem law_holds.tw10024239376800412576 : True := True.intro
theorem law_holds.tw3366817510852727610 : True := True.intro
theorem law_holds.tw1341266762083198811 : True := True.intro
theorem law_holds.tw15694993059591697976 : True := True.intro
theorem law_holds.tw10486713781251687710 : True := True.intro
theorem law_holds.tw1832781179975386347 : True := True.intro
theorem law_holds.tw3756957479349018193 : True := True.intro
theorem law_holds.tw4370086069003782432 : True := True.intro
theorem law_holds.tw7820799176418779761 : True := True.intro
theorem law_holds.tw12835091436910803158 : True := True.intro
theorem law_holds.tw11633083819707477107 : True := True.intro
theorem law_holds.tw1285599515219305098 : True := True.intro
theorem law_holds.tw5731563423909890137 : True := True.intro
theorem law_holds.tw11544315989524547432 : True := True.intro
theorem law_holds.tw519298541982818421 : True := True.intro
theorem law_holds.tw1905533677188600702 : True := True.intro
theorem law_holds.tw4515466672771955728 : True := True.intro
theorem law_holds.tw5274592661964301406 : True := True.intro
theorem law_holds.tw11924911360389889469 : True := True.intro
theorem law_holds.tw5769158387606399586 : True := True.intro
theorem law_holds.tw6860709855171689206 : True := True.intro
theorem law_holds.tw8266603773606604290 : True := True.intro
theorem law_holds.tw7910590604623066228 : True := True.intro
theorem law_holds.tw7497986649931050792 : True := True.intro
theorem law_holds.tw445335354869643106 : True := True.intro
theorem law_holds.tw2322801206320994539 : True := True.intro
theorem law_holds.tw4503035019201841076 : True := True.intro
theorem law_holds.tw1377309892636839040 : True := True.intro
theorem law_holds.tw15333956030411951890 : True := True.intro
theorem law_holds.tw3943428198234077543 : True := True.intro
theorem law_holds.tw3742325753681652743 : True := True.intro
theorem law_holds.tw14904137174637212347 : True := True.intro
theorem law_holds.tw13650905803964671038 : True := True.intro
theorem law_holds.tw11470271118054631628 : True := True.intro
theorem law_holds.tw8249079356659094474 : True := True.intro
theorem law_holds.tw6934448944433832347 : True := True.intro
theorem law_holds.tw10958410103948607464 : True := True.intro
theorem law_holds.tw699380112222796084 : True := True.intro
theorem law_holds.tw9843604407834444796 : True := True.intro
theorem law_holds.tw13882729330811710610 : True := True.intro
theorem law_holds.tw13028658284911697911 : True := True.intro
theorem law_holds.tw18326849912455186884 : True := True.intro
theorem law_holds.tw9255152265573255198 : True := True.intro
theorem law_holds.tw2558664710541493025 : True := True.intro
theorem law_holds.tw15527639110640922598 : True := True.intro
theorem law_holds.tw16406091861079842607 : True := True.intro
theorem law_holds.tw4916342969005030805 : True := True.intro
theorem law_holds.tw4593294709026258786 : True := True.intro
theorem law_holds.tw11404014056486942332 : True := True.intro
theorem law_holds.tw17865009358878524859 : True := True.intro
theorem law_holds.tw3955097671198598788 : True := True.intro
theorem law_holds.tw11946022803392826334 : True := True.intro
theorem law_holds.tw5212653520564569363 : True := True.intro
theorem law_holds.tw4037582482628031876 : True := True.intro
theorem law_holds.tw7221428835167493151 : True := True.intro
theorem law_holds.tw676263390381983339 : True := True.intro
theorem law_holds.tw12303009252429188658 : True := True.intro
theorem law_holds.tw7356724547972884604 : True := True.intro
theorem law_holds.tw15607887362523206001 : True := True.intro
theorem law_holds.tw18203989763732354715 : True := True.intro
theorem law_holds.tw3776956092104397036 : True := True.intro
theorem law_holds.tw6723812968561706957 : True := True.intro
theorem law_holds.tw6709271908398517637 : True := True.intro
theorem law_holds.tw14335913921861858828 : True := True.intro
theorem law_holds.tw15191720212996534143 : True := True.intro
theorem law_holds.tw11781800970755023335 : True := True.intro
theorem law_holds.tw3912811242725288453 : True := True.intro
theorem law_holds.tw2387193687640843687 : True := True.intro
theorem law_holds.tw17255088995462705879 : True := True.intro
theorem law_holds.tw2143268655074302082 : True := True.intro
theorem law_holds.tw10007947361888340627 : True := True.intro
theorem law_holds.tw4889031023730116350 : True := True.intro
theorem law_holds.tw9184033795430018204 : True := True.intro
theorem law_holds.tw1096898596823417342 : True := True.intro
theorem law_holds.tw10188763426450519768 : True := True.intro
theorem law_holds.tw8720880381367431298 : True := True.intro
theorem law_holds.tw11846676642670509255 : True := True.intro
theorem law_holds.tw11100686419730198450 : True := True.intro
theorem law_holds.tw18388893480867403737 : True := True.intro
theorem law_holds.tw12732824653754844360 : True := True.intro
theorem law_holds.tw1496123403401453975 : True := True.intro
theorem law_holds.tw10516828495840041881 : True := True.intro
theorem law_holds.tw9552830710289189752 : True := True.intro
theorem law_holds.tw14160533322030094474 : True := True.intro
theorem law_holds.tw16099233806120587224 : True := True.intro
theorem law_holds.tw8176227357466254829 : True := True.intro
theorem law_holds.tw2102315897755806987 : True := True.intro
theorem law_holds.tw5920216800500632969 : True := True.intro
theorem law_holds.tw5364902710198789758 : True := True.intro
theorem law_holds.tw17028624522117568015 : True := True.intro
theorem law_holds.tw16381176275627223697 : True := True.intro
theorem law_holds.tw3253568177066640346 : True := True.intro
theorem law_holds.tw12889056044993165476 : True := True.intro
theorem law_holds.tw3756308257209627903 : True := True.intro
theorem law_holds.tw12134408205421670959 : True := True.intro
theorem law_holds.tw3253820488102484341 : True := True.intro
theorem law_holds.tw3186734533307500241 : True := True.intro
theorem law_holds.tw13154458805202713791 : True := True.intro
theorem law_holds.tw2503670479209048990 : True := True.intro
theorem law_holds.tw6499956759230125245 : True := True.intro
theorem law_holds.tw6564709946809587534 : True := True.intro
theorem law_holds.tw12889673554181485818 : True := True.intro
theorem law_holds.tw6159533029260741167 : True := True.intro
theorem law_holds.tw3682559726232862161 : True := True.intro
theorem law_holds.tw1928719863018725356 : True := True.intro
theorem law_holds.tw17993387198741990920 : True := True.intro
theorem law_holds.tw13800757232730249582 : True := True.intro
theorem law_holds.tw11677100312832694166 : True := True.intro
theorem law_holds.tw11182679623053108816 : True := True.intro
theorem law_holds.tw4581845663705801772 : True := True.intro
theorem law_holds.tw15352839923633478061 : True := True.intro
theorem law_holds.tw3426384778480675251 : True := True.intro
theorem law_holds.tw16470317323979864763 : True := True.intro
theorem law_holds.tw9992725586745946429 : True := True.intro
theorem law_holds.tw4818577856007422655 : True := True.intro
theorem law_holds.tw6861490101519172755 : True := True.intro
theorem law_holds.tw3850404396616230974 : True := True.intro
theorem law_holds.tw2856731137302751260 : True := True.intro
theorem law_holds.tw2578278018795888234 : True := True.intro
theorem law_holds.tw11289095316329951393 : True := True.intro
theorem law_holds.tw11223184984439025696 : True := True.intro
theorem law_holds.tw2043166853727251185 : True := True.intro
theorem law_holds.tw9207643191828677137 : True := True.intro
theorem law_holds.tw8191475993861738794 : True := True.intro
theorem law_holds.tw7636989558263936852 : True := True.intro
theorem law_holds.tw4030767218360268280 : True := True.intro
theorem law_holds.tw15617896438947887921 : True := True.intro
theorem law_holds.tw15448297888555860652 : True := True.intro
theorem law_holds.tw14051398506283589457 : True := True.intro
theorem law_holds.tw13780023080261437657 : True := True.intro
theorem law_holds.tw11098625913536864229 : True := True.intro
theorem law_holds.tw10368410895845634921 : True := True.intro
theorem law_holds.tw16461882675039125421 : True := True.intro
theorem law_holds.tw4146061822495498468 : True := True.intro
theorem law_holds.tw11881114122080957857 : True := True.intro
theorem law_holds.tw10829313771624777081 : True := True.intro
theorem law_holds.tw8857742495270377987 : True := True.intro
theorem law_holds.tw7185456241796803578 : True := True.intro
theorem law_holds.tw6765152471904792315 : True := True.intro
theorem law_holds.tw607667584577438428 : True := True.intro
theorem law_holds.tw5455921660152230842 : True := True.intro
theorem law_holds.tw4329158554759489670 : True := True.intro
theorem law_holds.tw3850375180904979519 : True := True.intro
theorem law_holds.tw3046938939346580660 : True := True.intro
theorem law_holds.tw2842810181116790245 : True := True.intro
theorem law_holds.tw14883556706271630602 : True := True.intro
theorem law_holds.tw14828999820898988419 : True := True.intro
theorem law_holds.tw1186782194237197914 : True := True.intro
theorem law_holds.tw10566571302883470556 : True := True.intro
theorem law_holds.tw4273555757443719353 : True := True.intro
theorem law_holds.tw16614716721108272449 : True := True.intro
theorem law_holds.tw8957123355933967898 : True := True.intro
theorem law_holds.tw8553002610548859549 : True := True.intro
theorem law_holds.tw8549365171731915398 : True := True.intro
theorem law_holds.tw8330938851228082562 : True := True.intro
theorem law_holds.tw3158129796062787159 : True := True.intro
theorem law_holds.tw2295933128562542503 : True := True.intro
theorem law_holds.tw2124134355350193313 : True := True.intro
theorem law_holds.tw1989176631692091739 : True := True.intro
theorem law_holds.tw1767730674963353768 : True := True.intro
theorem law_holds.tw17274716441693411508 : True := True.intro
theorem law_holds.tw14983226153234331074 : True := True.intro
theorem law_holds.tw13250372474279835810 : True := True.intro
theorem law_holds.tw123295346585929383 : True := True.intro
theorem law_holds.tw10442559174759676424 : True := True.intro
theorem law_holds.tw10362271348294423435 : True := True.intro
theorem law_holds.tw5640673133297012132 : True := True.intro
theorem law_holds.tw6333624483447246961 : True := True.intro
theorem law_holds.tw1909877003179415225 : True := True.intro
theorem law_holds.tw7472407996622490835 : True := True.intro
theorem law_holds.tw14925382992726071281 : True := True.intro
theorem law_holds.tw17713402740875732926 : True := True.intro
theorem law_holds.tw10817052189556005596 : True := True.intro
theorem law_holds.tw6719018230134327050 : True := True.intro
theorem law_holds.tw14892801356780361778 : True := True.intro
theorem law_holds.tw5062152199769849712 : True := True.intro
theorem law_holds.tw9756186529297912284 : True := True.intro
theorem law_holds.tw14571795756577361901 : True := True.intro
theorem law_holds.tw14872900085578418628 : True := True.intro
theorem law_holds.tw302768837105346163 : True := True.intro
theorem law_holds.tw9529696498207198238 : True := True.intro
theorem law_holds.tw6507877686720480950 : True := True.intro
theorem law_holds.tw12456547296908542839 : True := True.intro
theorem law_holds.tw9634471323475708679 : True := True.intro
theorem law_holds.tw11764581739189218997 : True := True.intro
theorem law_holds.tw10841264019214440115 : True := True.intro
theorem law_holds.tw8835965917227929528 : True := True.intro
theorem law_holds.tw17499823404086765753 : True := True.intro
theorem law_holds.tw13709617746848070560 : True := True.intro
theorem law_holds.tw12476058986133298565 : True := True.intro
theorem law_holds.tw15661869461025623997 : True := True.intro
theorem law_holds.tw1414043511812021011 : True := True.intro
theorem law_holds.tw16563099163409725306 : True := True.intro
theorem law_holds.tw16805829885119392726 : True := True.intro
theorem law_holds.tw8763168800255643514 : True := True.intro
theorem law_holds.tw1035469204868569938 : True := True.intro
theorem law_holds.tw14997073306097389879 : True := True.intro
theorem law_holds.tw12831907817818079685 : True := True.intro
theorem law_holds.tw18340598423539479173 : True := True.intro
theorem law_holds.tw16893121556090616931 : True := True.intro
theorem law_holds.tw9889521400790421688 : True := True.intro
theorem law_holds.tw9779807473162285230 : True := True.intro
theorem law_holds.tw9168033884955339765 : True := True.intro
theorem law_holds.tw8984712037535005518 : True := True.intro
theorem law_holds.tw8854015012368427407 : True := True.intro
theorem law_holds.tw8666519363043736892 : True := True.intro
theorem law_holds.tw8634839017697508684 : True := True.intro
theorem law_holds.tw8472228645029834797 : True := True.intro
theorem law_holds.tw8441880690091102137 : True := True.intro
theorem law_holds.tw8369274380968253667 : True := True.intro
theorem law_holds.tw7566432030715092817 : True := True.intro
theorem law_holds.tw7408322871517469003 : True := True.intro
theorem law_holds.tw724200737284857819 : True := True.intro
theorem law_holds.tw6911747868599837429 : True := True.intro
theorem law_holds.tw6869992995446874880 : True := True.intro
theorem law_holds.tw6727219029552735585 : True := True.intro
theorem law_holds.tw6317479115527610633 : True := True.intro
theorem law_holds.tw5506821171919863439 : True := True.intro
theorem law_holds.tw545109181885906688 : True := True.intro
theorem law_holds.tw4992725456586698614 : True := True.intro
theorem law_holds.tw498061464947678834 : True := True.intro
theorem law_holds.tw4524032621918665186 : True := True.intro
theorem law_holds.tw4464252984393422682 : True := True.intro
theorem law_holds.tw4439653461905209652 : True := True.intro
theorem law_holds.tw3956099054510807996 : True := True.intro
theorem law_holds.tw3896150654470677357 : True := True.intro
theorem law_holds.tw3882201998751590657 : True := True.intro
theorem law_holds.tw3494445600050047599 : True := True.intro
theorem law_holds.tw3049941959672503198 : True := True.intro
theorem law_holds.tw3035144380315620824 : True := True.intro
theorem law_holds.tw2907507879108658156 : True := True.intro
theorem law_holds.tw2887050238494874643 : True := True.intro
theorem law_holds.tw2618386414584295968 : True := True.intro
theorem law_holds.tw2269544990204364226 : True := True.intro
theorem law_holds.tw2136269947727277649 : True := True.intro
theorem law_holds.tw2090888555730037645 : True := True.intro
theorem law_holds.tw2055734563569237896 : True := True.intro
theorem law_holds.tw18430954121086234272 : True := True.intro
theorem law_holds.tw18269650602155537469 : True := True.intro
theorem law_holds.tw18221428039690301666 : True := True.intro
theorem law_holds.tw1819975233463548508 : True := True.intro
theorem law_holds.tw18135211599370774712 : True := True.intro
theorem law_holds.tw18006792725990754497 : True := True.intro
theorem law_holds.tw17974257514489008736 : True := True.intro
theorem law_holds.tw17942709131360195518 : True := True.intro
theorem law_holds.tw17923851452625207687 : True := True.intro
theorem law_holds.tw17253903310271361901 : True := True.intro
theorem law_holds.tw17253691774821329096 : True := True.intro
theorem law_holds.tw17237755526102222789 : True := True.intro
theorem law_holds.tw16883458599210261866 : True := True.intro
theorem law_holds.tw1685627985566243432 : True := True.intro
theorem law_holds.tw1670043908289496885 : True := True.intro
theorem law_holds.tw1622690429015379626 : True := True.intro
theorem law_holds.tw16098122237329998606 : True := True.intro
theorem law_holds.tw15829985883664642994 : True := True.intro
theorem law_holds.tw15293083901398250104 : True := True.intro
theorem law_holds.tw15162217921772873613 : True := True.intro
theorem law_holds.tw15154110283740273250 : True := True.intro
theorem law_holds.tw15150646450996357022 : True := True.intro
theorem law_holds.tw15006436103509636135 : True := True.intro
theorem law_holds.tw14789792462180790578 : True := True.intro
theorem law_holds.tw14774650325386425613 : True := True.intro
theorem law_holds.tw14746732674962391887 : True := True.intro
theorem law_holds.tw14596297492920191028 : True := True.intro
theorem law_holds.tw14545874151571354728 : True := True.intro
theorem law_holds.tw14497384708736915567 : True := True.intro
theorem law_holds.tw14390095281932903014 : True := True.intro
theorem law_holds.tw14377833709258309704 : True := True.intro
theorem law_holds.tw14326059299131336239 : True := True.intro
theorem law_holds.tw13958071646730322851 : True := True.intro
theorem law_holds.tw13478230802861573701 : True := True.intro
theorem law_holds.tw13397297893571687751 : True := True.intro
theorem law_holds.tw13182730311906835528 : True := True.intro
theorem law_holds.tw12687621791434340054 : True := True.intro
theorem law_holds.tw12626328134170644701 : True := True.intro
theorem law_holds.tw12459966957829302596 : True := True.intro
theorem law_holds.tw12419048959643632839 : True := True.intro
theorem law_holds.tw12342728606916771844 : True := True.intro
theorem law_holds.tw12223724995276690173 : True := True.intro
theorem law_holds.tw11966672015165255308 : True := True.intro
theorem law_holds.tw11803358882649189518 : True := True.intro
theorem law_holds.tw11609493526922420660 : True := True.intro
theorem law_holds.tw11126432536435168541 : True := True.intro
theorem law_holds.tw10968802771074238664 : True := True.intro
theorem law_holds.tw10876394233666535175 : True := True.intro
theorem law_holds.tw10812634152524527747 : True := True.intro
theorem law_holds.tw10666784280354678857 : True := True.intro
theorem law_holds.tw10609929442622069884 : True := True.intro
theorem law_holds.tw10296202853966499060 : True := True.intro
theorem law_holds.tw10264638600885302300 : True := True.intro
theorem law_holds.tw10028117763298573888 : True := True.intro
theorem law_holds.tw9423440377400516374 : True := True.intro
theorem law_holds.tw7304591109411159013 : True := True.intro
theorem law_holds.tw602461330855297101 : True := True.intro
theorem law_holds.tw3438298445031660282 : True := True.intro
theorem law_holds.tw18234560199702728603 : True := True.intro
theorem law_holds.tw15806970514647361693 : True := True.intro
theorem law_holds.tw15544829507116839252 : True := True.intro
theorem law_holds.tw14988988175077273356 : True := True.intro
theorem law_holds.tw14289194402921355359 : True := True.intro
theorem law_holds.tw13766487248619392586 : True := True.intro
theorem law_holds.tw12780804625047726367 : True := True.intro
set_option Elab.async true in
theorem law_holds : PySem.Challenge.rw_nm0125_01.Holds := by
  w_on
  o_law
  k_head
  (case hw => w_witness2)
  w_strict (k_go0; (all_goals (have X0 := frag_to (K' := K0) (by assumption) (fun P => by kernel_rfl))); (all_goals try k_fold); k_steps; (all_goals (try k_data)); all_goals w_report)
end
end Mine
theorem PySem.Challenge.cw_nm0125_01_holds : PySem.Challenge.rw_nm0125_01.Holds :=
  Mine.law_holds
