import PyProof.Rows.All
import Wide.All
import OpenK.AllK
import Wide.FinOn
import Lean
import PySem.Challenge.RW_qd0067_01
open PySem PySem.W PySem.Calls PySem.Spec PyProof.Rows
set_option Elab.async false
namespace Mine
set_option maxRecDepth 100000
set_option maxHeartbeats 8000000
set_option linter.all false
local macro_rules | `(tactic| walk_at $s:str) => `(tactic| k_extra $s)
local macro_rules | `(tactic| k_all) => `(tactic| k_extra "mine k_all")
local macro_rules | `(tactic| k_enter) => `(tactic| k_extra "mine k_enter")
local macro_rules | `(tactic| k_handed) => `(tactic| k_extra "mine k_handed")
local macro_rules | `(tactic| k_ne) => `(tactic| k_extra "mine k_ne")
local macro_rules | `(tactic| k_room) => `(tactic| k_extra "mine k_room")
local macro_rules | `(tactic| k_units) => `(tactic| k_extra "mine k_units")
theorem wd1 : True := by
  (k_with "t_steps3" => repeat' (first | (k_unfold; (try dsimp only)) | (k_end; kc_close) | walk1 | (dsimp only; walk1) | (leave1; walk_say "STEP leave1"; (try dsimp only)) | fail "no step"))
  (k_with "t_steps" => repeat' (first | (k_unfold; (try dsimp only)) | (k_end; kc_close) | walk1 | (dsimp only; walk1) | (leave1; walk_say "STEP leave1"; (try dsimp only)) | fail "no step"))
  trivial
-- part Hd1
/-- the program -/
noncomputable abbrev hp : Program := PySem.Challenge.rw_qd0067_01.row.toRowW.1
/-- a def's parts -/
inductive Pt where
  | no
  | mk (a : Arguments) (b : List Stmt) (c : Scope)
def fnP : Stmt → Pt
  | .FunctionDef _ a b _ _ _ c _ _ _ => .mk a b c
  | _ => .no
noncomputable def stA (i : Nat) : Stmt := (behindTheImports hp).getD i (.Pass ⟨0, 0, 0, 0⟩)
noncomputable def stM (i j : Nat) : Stmt := match stA i with
  | .ClassDef _ _ _ b _ _ _ _ _ _ _ => b.getD j (.Pass ⟨0, 0, 0, 0⟩)
  | s => s
/-- the objects that the walk knows whole; the parts of the program's text come out of the row itself -/
noncomputable def hd.heap_39 (P : Params) : Frag := by
  refine (?f : ∀ (a21 a39 a46 a86 a93 a100 a107 a114 a121 a128 a135 a142 a149 a156 a163 a170 a175 a182 a196 a203 a210 a224 a231 a238 a245 a252 a259 a266 a273 a280 a287 a294 a301 a308 a315 a322 a336 a343 a350 a357 a364 a371 a393 a400 a407 a414 a421 a428 a435 a442 a447 a469 a476 a488 a495 a502 a509 a516 a523 a528 a535 : Arguments) (b21 b39 b46 b86 b93 b100 b107 b114 b121 b128 b135 b142 b149 b156 b163 b170 b175 b182 b196 b203 b210 b224 b231 b238 b245 b252 b259 b266 b273 b280 b287 b294 b301 b308 b315 b322 b336 b343 b350 b357 b364 b371 b393 b400 b407 b414 b421 b428 b435 b442 b447 b469 b476 b488 b495 b502 b509 b516 b523 b528 b535 : List Stmt) (c21 c39 c46 c86 c93 c100 c107 c114 c121 c128 c135 c142 c149 c156 c163 c170 c175 c182 c196 c203 c210 c224 c231 c238 c245 c252 c259 c266 c273 c280 c287 c294 c301 c308 c315 c322 c336 c343 c350 c357 c364 c371 c393 c400 c407 c414 c421 c428 c435 c442 c447 c469 c476 c488 c495 c502 c509 c516 c523 c528 c535 : Scope) (h21 : fnP (stA 0) = .mk a21 b21 c21) (h39 : fnP (stM 7 0) = .mk a39 b39 c39) (h46 : fnP (stM 7 1) = .mk a46 b46 c46) (h86 : fnP (stA 15) = .mk a86 b86 c86) (h93 : fnP (stA 16) = .mk a93 b93 c93) (h100 : fnP (stA 17) = .mk a100 b100 c100) (h107 : fnP (stA 18) = .mk a107 b107 c107) (h114 : fnP (stA 19) = .mk a114 b114 c114) (h121 : fnP (stA 20) = .mk a121 b121 c121) (h128 : fnP (stA 21) = .mk a128 b128 c128) (h135 : fnP (stA 22) = .mk a135 b135 c135) (h142 : fnP (stA 23) = .mk a142 b142 c142) (h149 : fnP (stA 24) = .mk a149 b149 c149) (h156 : fnP (stA 25) = .mk a156 b156 c156) (h163 : fnP (stA 26) = .mk a163 b163 c163) (h170 : fnP (stA 27) = .mk a170 b170 c170) (h175 : fnP (stA 28) = .mk a175 b175 c175) (h182 : fnP (stA 29) = .mk a182 b182 c182) (h196 : fnP (stM 31 0) = .mk a196 b196 c196) (h203 : fnP (stM 31 1) = .mk a203 b203 c203) (h210 : fnP (stM 31 2) = .mk a210 b210 c210) (h224 : fnP (stA 34) = .mk a224 b224 c224) (h231 : fnP (stA 35) = .mk a231 b231 c231) (h238 : fnP (stA 36) = .mk a238 b238 c238) (h245 : fnP (stA 37) = .mk a245 b245 c245) (h252 : fnP (stA 38) = .mk a252 b252 c252) (h259 : fnP (stA 39) = .mk a259 b259 c259) (h266 : fnP (stA 40) = .mk a266 b266 c266) (h273 : fnP (stA 41) = .mk a273 b273 c273) (h280 : fnP (stA 42) = .mk a280 b280 c280) (h287 : fnP (stA 43) = .mk a287 b287 c287) (h294 : fnP (stA 44) = .mk a294 b294 c294) (h301 : fnP (stA 45) = .mk a301 b301 c301) (h308 : fnP (stA 46) = .mk a308 b308 c308) (h315 : fnP (stA 47) = .mk a315 b315 c315) (h322 : fnP (stA 48) = .mk a322 b322 c322) (h336 : fnP (stM 49 0) = .mk a336 b336 c336) (h343 : fnP (stM 49 1) = .mk a343 b343 c343) (h350 : fnP (stM 49 2) = .mk a350 b350 c350) (h357 : fnP (stM 49 3) = .mk a357 b357 c357) (h364 : fnP (stM 49 4) = .mk a364 b364 c364) (h371 : fnP (stM 49 5) = .mk a371 b371 c371) (h393 : fnP (stM 50 0) = .mk a393 b393 c393) (h400 : fnP (stM 50 1) = .mk a400 b400 c400) (h407 : fnP (stM 50 2) = .mk a407 b407 c407) (h414 : fnP (stM 50 3) = .mk a414 b414 c414) (h421 : fnP (stM 50 4) = .mk a421 b421 c421) (h428 : fnP (stM 50 5) = .mk a428 b428 c428) (h435 : fnP (stM 50 6) = .mk a435 b435 c435) (h442 : fnP (stM 50 7) = .mk a442 b442 c442) (h447 : fnP (stM 50 8) = .mk a447 b447 c447) (h469 : fnP (stM 51 0) = .mk a469 b469 c469) (h476 : fnP (stM 51 1) = .mk a476 b476 c476) (h488 : fnP (stA 52) = .mk a488 b488 c488) (h495 : fnP (stA 54) = .mk a495 b495 c495) (h502 : fnP (stA 55) = .mk a502 b502 c502) (h509 : fnP (stA 56) = .mk a509 b509 c509) (h516 : fnP (stA 57) = .mk a516 b516 c516) (h523 : fnP (stA 58) = .mk a523 b523 c523) (h528 : fnP (stA 59) = .mk a528 b528 c528) (h535 : fnP (stA 60) = .mk a535 b535 c535), Frag) _ _ _ _ _ _ _ _ _ _ _ _ _ _ _ _ _ _ _ _ _ _ _ _ _ _ _ _ _ _ _ _ _ _ _ _ _ _ _ _ _ _ _ _ _ _ _ _ _ _ _ _ _ _ _ _ _ _ _ _ _ _ _ _ _ _ _ _ _ _ _ _ _ _ _ _ _ _ _ _ _ _ _ _ _ _ _ _ _ _ _ _ _ _ _ _ _ _ _ _ _ _ _ _ _ _ _ _ _ _ _ _ _ _ _ _ _ _ _ _ _ _ _ _ _ _ _ _ _ _ _ _ _ _ _ _ _ _ _ _ _ _ _ _ _ _ _ _ _ _ _ _ _ _ _ _ _ _ _ _ _ _ _ _ _ _ _ _ _ _ _ _ _ _ _ _ _ _ _ _ _ _ _ rfl rfl rfl rfl rfl rfl rfl rfl rfl rfl rfl rfl rfl rfl rfl rfl rfl rfl rfl rfl rfl rfl rfl rfl rfl rfl rfl rfl rfl rfl rfl rfl rfl rfl rfl rfl rfl rfl rfl rfl rfl rfl rfl rfl rfl rfl rfl rfl rfl rfl rfl rfl rfl rfl rfl rfl rfl rfl rfl rfl rfl
  exact fun a21 a39 a46 a86 a93 a100 a107 a114 a121 a128 a135 a142 a149 a156 a163 a170 a175 a182 a196 a203 a210 a224 a231 a238 a245 a252 a259 a266 a273 a280 a287 a294 a301 a308 a315 a322 a336 a343 a350 a357 a364 a371 a393 a400 a407 a414 a421 a428 a435 a442 a447 a469 a476 a488 a495 a502 a509 a516 a523 a528 a535 b21 b39 b46 b86 b93 b100 b107 b114 b121 b128 b135 b142 b149 b156 b163 b170 b175 b182 b196 b203 b210 b224 b231 b238 b245 b252 b259 b266 b273 b280 b287 b294 b301 b308 b315 b322 b336 b343 b350 b357 b364 b371 b393 b400 b407 b414 b421 b428 b435 b442 b447 b469 b476 b488 b495 b502 b509 b516 b523 b528 b535 c21 c39 c46 c86 c93 c100 c107 c114 c121 c128 c135 c142 c149 c156 c163 c170 c175 c182 c196 c203 c210 c224 c231 c238 c245 c252 c259 c266 c273 c280 c287 c294 c301 c308 c315 c322 c336 c343 c350 c357 c364 c371 c393 c400 c407 c414 c421 c428 c435 c442 c447 c469 c476 c488 c495 c502 c509 c516 c523 c528 c535 _ _ _ _ _ _ _ _ _ _ _ _ _ _ _ _ _ _ _ _ _ _ _ _ _ _ _ _ _ _ _ _ _ _ _ _ _ _ _ _ _ _ _ _ _ _ _ _ _ _ _ _ _ _ _ _ _ _ _ _ _ => ((nat_lit 2, .mk .none none (.dict #[.mk (PyData.keyHash P (.ofString "type.__subclasses__.Exception.0")) (.str (.ofString "type.__subclasses__.Exception.0") 314) (.int 49 0), .mk (PyData.keyHash P (.ofString "type.__subclasses__.Exception.n")) (.str (.ofString "type.__subclasses__.Exception.n") 315) (.int 1 0)] 2) #[]) :: (nat_lit 3, .mk (.type "dict") none (.dict (List.toArray (.mk (PyData.keyHash P (.ofString "__name__")) (.str (.ofString "__name__") 165) (.str (.ofString "law_qd0067_01") 907) :: .mk (PyData.keyHash P (.ofString "__doc__")) (.str (.ofString "__doc__") 166) .none :: .mk (PyData.keyHash P (.ofString "__package__")) (.str (.ofString "__package__") 167) .none :: .mk (PyData.keyHash P (.ofString "__loader__")) (.str (.ofString "__loader__") 168) (.builtin "__main__.__loader__#opaque") :: .mk (PyData.keyHash P (.ofString "__spec__")) (.str (.ofString "__spec__") 169) .none :: .mk (PyData.keyHash P (.ofString "__annotations__")) (.str (.ofString "__annotations__") 170) (.ref (6:Nat)) :: .mk (PyData.keyHash P (.ofString "__builtins__")) (.str (.ofString "__builtins__") 171) (.ref (4:Nat)) :: .mk (PyData.keyHash P (.ofString "__file__")) (.str (.ofString "__file__") 173) (.str (.ofString "/claim/cut.py") 172) :: .mk (PyData.keyHash P (.ofString "__cached__")) (.str (.ofString "__cached__") 174) .none :: .mk (PyData.keyHash P (.ofString "_wall")) (.str (.ofString "_wall") 193) (.ref (21:Nat)) :: .mk (PyData.keyHash P (.ofString "WORDS")) (.str (.ofString "WORDS") 199) (.ref (22:Nat)) :: .mk (PyData.keyHash P (.ofString "LEVELS")) (.str (.ofString "LEVELS") 239) (.ref (23:Nat)) :: .mk (PyData.keyHash P (.ofString "FUNCTIONS")) (.str (.ofString "FUNCTIONS") 273) (.ref (24:Nat)) :: .mk (PyData.keyHash P (.ofString "MOST_BITS")) (.str (.ofString "MOST_BITS") 275) (.int 512 274) :: .mk (PyData.keyHash P (.ofString "MOST_SIZE")) (.str (.ofString "MOST_SIZE") 277) (.int 2000 276) :: .mk (PyData.keyHash P (.ofString "ToolError")) (.str (.ofString "ToolError") 317) (.ref (49:Nat)) :: .mk (PyData.keyHash P (.ofString "ActionError")) (.str (.ofString "ActionError") 333) (.ref (62:Nat)) :: .mk (PyData.keyHash P (.ofString "MachineError")) (.str (.ofString "MachineError") 349) (.ref (74:Nat)) :: .mk (PyData.keyHash P (.ofString "LEAVING")) (.str (.ofString "LEAVING") 355) (.ref (77:Nat)) :: .mk (PyData.keyHash P (.ofString "COMPARISONS")) (.str (.ofString "COMPARISONS") 362) (.ref (78:Nat)) :: .mk (PyData.keyHash P (.ofString "JUMPS")) (.str (.ofString "JUMPS") 366) (.ref (79:Nat)) :: .mk (PyData.keyHash P (.ofString "MOST_PARTS")) (.str (.ofString "MOST_PARTS") 368) (.int 300 367) :: .mk (PyData.keyHash P (.ofString "is_number")) (.str (.ofString "is_number") 375) (.ref (86:Nat)) :: .mk (PyData.keyHash P (.ofString "is_true")) (.str (.ofString "is_true") 382) (.ref (93:Nat)) :: .mk (PyData.keyHash P (.ofString "bounded")) (.str (.ofString "bounded") 389) (.ref (100:Nat)) :: .mk (PyData.keyHash P (.ofString "added")) (.str (.ofString "added") 398) (.ref (107:Nat)) :: .mk (PyData.keyHash P (.ofString "compared")) (.str (.ofString "compared") 408) (.ref (114:Nat)) :: .mk (PyData.keyHash P (.ofString "part_count")) (.str (.ofString "part_count") 418) (.ref (121:Nat)) :: .mk (PyData.keyHash P (.ofString "are_equal")) (.str (.ofString "are_equal") 426) (.ref (128:Nat)) :: .mk (PyData.keyHash P (.ofString "two_worth")) (.str (.ofString "two_worth") 435) (.ref (135:Nat)) :: .mk (PyData.keyHash P (.ofString "one_worth")) (.str (.ofString "one_worth") 443) (.ref (142:Nat)) :: .mk (PyData.keyHash P (.ofString "goals_behind")) (.str (.ofString "goals_behind") 453) (.ref (149:Nat)) :: .mk (PyData.keyHash P (.ofString "taken_and_put")) (.str (.ofString "taken_and_put") 461) (.ref (156:Nat)) :: .mk (PyData.keyHash P (.ofString "is_bounded")) (.str (.ofString "is_bounded") 468) (.ref (163:Nat)) :: .mk (PyData.keyHash P (.ofString "is_pair")) (.str (.ofString "is_pair") 477) (.ref (170:Nat)) :: .mk (PyData.keyHash P (.ofString "check_code")) (.str (.ofString "check_code") 483) (.ref (175:Nat)) :: .mk (PyData.keyHash P (.ofString "show_code")) (.str (.ofString "show_code") 494) (.ref (182:Nat)) :: .mk (PyData.keyHash P (.ofString "Handler")) (.str (.ofString "Handler") 541) (.ref (213:Nat)) :: .mk (PyData.keyHash P (.ofString "MOST_FIGURES")) (.str (.ofString "MOST_FIGURES") 545) (.int 160 544) :: .mk (PyData.keyHash P (.ofString "need")) (.str (.ofString "need") 553) (.ref (224:Nat)) :: .mk (PyData.keyHash P (.ofString "need_list")) (.str (.ofString "need_list") 560) (.ref (231:Nat)) :: .mk (PyData.keyHash P (.ofString "need_row")) (.str (.ofString "need_row") 567) (.ref (238:Nat)) :: .mk (PyData.keyHash P (.ofString "need_number")) (.str (.ofString "need_number") 576) (.ref (245:Nat)) :: .mk (PyData.keyHash P (.ofString "number_of")) (.str (.ofString "number_of") 586) (.ref (252:Nat)) :: .mk (PyData.keyHash P (.ofString "text_of")) (.str (.ofString "text_of") 593) (.ref (259:Nat)) :: .mk (PyData.keyHash P (.ofString "glued")) (.str (.ofString "glued") 602) (.ref (266:Nat)) :: .mk (PyData.keyHash P (.ofString "turned")) (.str (.ofString "turned") 609) (.ref (273:Nat)) :: .mk (PyData.keyHash P (.ofString "item_of")) (.str (.ofString "item_of") 617) (.ref (280:Nat)) :: .mk (PyData.keyHash P (.ofString "cut_of")) (.str (.ofString "cut_of") 626) (.ref (287:Nat)) :: .mk (PyData.keyHash P (.ofString "end_of")) (.str (.ofString "end_of") 634) (.ref (294:Nat)) :: .mk (PyData.keyHash P (.ofString "call_of_one")) (.str (.ofString "call_of_one") 642) (.ref (301:Nat)) :: .mk (PyData.keyHash P (.ofString "applied")) (.str (.ofString "applied") 650) (.ref (308:Nat)) :: .mk (PyData.keyHash P (.ofString "value_at")) (.str (.ofString "value_at") 658) (.ref (315:Nat)) :: .mk (PyData.keyHash P (.ofString "controlled")) (.str (.ofString "controlled") 666) (.ref (322:Nat)) :: .mk (PyData.keyHash P (.ofString "Frame")) (.str (.ofString "Frame") 745) (.ref (374:Nat)) :: .mk (PyData.keyHash P (.ofString "Machine")) (.str (.ofString "Machine") 859) (.ref (450:Nat)) :: .mk (PyData.keyHash P (.ofString "CodeHandler")) (.str (.ofString "CodeHandler") 898) (.ref (479:Nat)) :: .mk (PyData.keyHash P (.ofString "handler_from_codes")) (.str (.ofString "handler_from_codes") 906) (.ref (488:Nat)) :: .mk (PyData.keyHash P (.ofString "_law_BOUND")) (.str (.ofString "_law_BOUND") 914) (.ref (495:Nat)) :: .mk (PyData.keyHash P (.ofString "_law_pen")) (.str (.ofString "_law_pen") 923) (.ref (502:Nat)) :: .mk (PyData.keyHash P (.ofString "_law_draw")) (.str (.ofString "_law_draw") 932) (.ref (509:Nat)) :: .mk (PyData.keyHash P (.ofString "_law_is_let")) (.str (.ofString "_law_is_let") 939) (.ref (516:Nat)) :: .mk (PyData.keyHash P (.ofString "_law_heard")) (.str (.ofString "_law_heard") 947) (.ref (523:Nat)) :: .mk (PyData.keyHash P (.ofString "_law_right")) (.str (.ofString "_law_right") 953) (.ref (528:Nat)) :: .mk (PyData.keyHash P (.ofString "law")) (.str (.ofString "law") 967) (.ref (535:Nat)) :: [])) 65) #[]) :: (nat_lit 15, .mk (.type "tuple") none (.seq #[] 0) #[]) :: (nat_lit 17, .mk (.type "tuple") none (.seq #[.str (.ofString "k") 190] 0) #[]) :: (nat_lit 18, .mk (.type "tuple") none (.seq #[] 0) #[]) :: (nat_lit 20, .mk (.type "code") none (.fields #[.str (.ofString "_wall") 187, .str (.ofString "_wall") 188, .str (.ofString "/claim/cut.py") 189, .int 1 0, .int 1 0, .int 0 0, .int 0 0, .int 3 0, .ref (15:Nat), .bool true, .int 181 0, .ref (16:Nat), .none, .ref (17:Nat), .ref (18:Nat), .ref (19:Nat), .int 191 0, .int 1 0, .str (.ofString "/claim/cut.py") 192]) #[]) :: (nat_lit 21, .mk (.type "function") none (.func (.mk (.ofString "_wall") (.ofString "_wall") a21 (.stmts b21) c21 3 [] .none .none .none (.str (.ofString "__main__") 164) none (.ref (20:Nat)) .none 0)) #[]) :: (nat_lit 22, .mk (.type "tuple") none (.seq #[.str (.ofString "yyerrok") 194, .str (.ofString "yyclearin") 195, .str (.ofString "YYERROR") 196, .str (.ofString "YYABORT") 197, .str (.ofString "YYACCEPT") 198] 0) #[]) :: (nat_lit 23, .mk (.type "dict") none (.dict #[.mk (PyData.keyHash P (.ofString "||")) (.str (.ofString "||") 200) (.int 1 201), .mk (PyData.keyHash P (.ofString "&&")) (.str (.ofString "&&") 202) (.int 2 203), .mk (PyData.keyHash P (.ofString "==")) (.str (.ofString "==") 204) (.int 3 205), .mk (PyData.keyHash P (.ofString "!=")) (.str (.ofString "!=") 206) (.int 3 207), .mk (PyData.keyHash P (.ofString "<")) (.str (.ofString "<") 208) (.int 3 209), .mk (PyData.keyHash P (.ofString "<=")) (.str (.ofString "<=") 210) (.int 3 211), .mk (PyData.keyHash P (.ofString ">")) (.str (.ofString ">") 212) (.int 3 213), .mk (PyData.keyHash P (.ofString ">=")) (.str (.ofString ">=") 214) (.int 3 215), .mk (PyData.keyHash P (.ofString "+")) (.str (.ofString "+") 216) (.int 4 217), .mk (PyData.keyHash P (.ofString "-")) (.str (.ofString "-") 218) (.int 4 219), .mk (PyData.keyHash P (.ofString "*")) (.str (.ofString "*") 220) (.int 5 221), .mk (PyData.keyHash P (.ofString "/")) (.str (.ofString "/") 222) (.int 5 223), .mk (PyData.keyHash P (.ofString "%")) (.str (.ofString "%") 224) (.int 5 225)] 13) #[]) :: (nat_lit 24, .mk (.type "dict") none (.dict #[.mk (PyData.keyHash P (.ofString "len")) (.str (.ofString "len") 240) (.int 1 241), .mk (PyData.keyHash P (.ofString "item")) (.str (.ofString "item") 242) (.int 2 243), .mk (PyData.keyHash P (.ofString "push")) (.str (.ofString "push") 244) (.int 2 245), .mk (PyData.keyHash P (.ofString "head")) (.str (.ofString "head") 246) (.int 1 247), .mk (PyData.keyHash P (.ofString "rest")) (.str (.ofString "rest") 248) (.int 1 249), .mk (PyData.keyHash P (.ofString "last")) (.str (.ofString "last") 250) (.int 1 251), .mk (PyData.keyHash P (.ofString "back")) (.str (.ofString "back") 252) (.int 1 253), .mk (PyData.keyHash P (.ofString "text")) (.str (.ofString "text") 254) (.int 1 255), .mk (PyData.keyHash P (.ofString "number")) (.str (.ofString "number") 256) (.int 1 257), .mk (PyData.keyHash P (.ofString "cut")) (.str (.ofString "cut") 258) (.int 3 259), .mk (PyData.keyHash P (.ofString "glue")) (.str (.ofString "glue") 260) (.int 2 261)] 11) #[]) :: (nat_lit 25, .mk (.type "tuple") none (.seq #[.type "Exception"] 0) #[]) :: (nat_lit 32, .mk (.type "tuple") none (.seq #[.none] 0) #[]) :: (nat_lit 33, .mk (.type "tuple") none (.seq #[] 0) #[]) :: (nat_lit 35, .mk (.type "tuple") none (.seq #[.str (.ofString "self") 295, .str (.ofString "what") 296, .str (.ofString "at") 297] 0) #[]) :: (nat_lit 36, .mk (.type "tuple") none (.seq #[] 0) #[]) :: (nat_lit 38, .mk (.type "code") none (.fields #[.str (.ofString "__init__") 292, .str (.ofString "ToolError.__init__") 293, .str (.ofString "/claim/cut.py") 294, .int 12 0, .int 3 0, .int 0 0, .int 0 0, .int 3 0, .ref (33:Nat), .bool true, .int 181 0, .ref (34:Nat), .none, .ref (35:Nat), .ref (36:Nat), .ref (37:Nat), .int 298 0, .int 12 0, .str (.ofString "/claim/cut.py") 299]) #[]) :: (nat_lit 39, .mk (.type "function") none (.func (.mk (.ofString "__init__") (.ofString "ToolError.__init__") a39 (.stmts b39) c39 3 [] (.ref (32:Nat)) .none .none (.str (.ofString "grammarmill.source") 278) none (.ref (38:Nat)) .none 0)) #[]) :: (nat_lit 40, .mk (.type "tuple") none (.seq #[] 0) #[]) :: (nat_lit 42, .mk (.type "tuple") none (.seq #[.str (.ofString "self") 304] 0) #[]) :: (nat_lit 43, .mk (.type "tuple") none (.seq #[] 0) #[]) :: (nat_lit 45, .mk (.type "code") none (.fields #[.str (.ofString "told") 301, .str (.ofString "ToolError.told") 302, .str (.ofString "/claim/cut.py") 303, .int 17 0, .int 1 0, .int 0 0, .int 0 0, .int 3 0, .ref (40:Nat), .bool true, .int 181 0, .ref (41:Nat), .none, .ref (42:Nat), .ref (43:Nat), .ref (44:Nat), .int 305 0, .int 17 0, .str (.ofString "/claim/cut.py") 306]) #[]) :: (nat_lit 46, .mk (.type "function") none (.func (.mk (.ofString "told") (.ofString "ToolError.told") a46 (.stmts b46) c46 3 [] .none .none .none (.str (.ofString "grammarmill.source") 278) none (.ref (45:Nat)) .none 0)) #[]) :: (nat_lit 47, .mk (.type "tuple") none (.seq #[.str (.ofString "at") 308, .str (.ofString "what") 309] 0) #[]) :: (nat_lit 48, .mk (.type "dict") none (.dict #[.mk (PyData.keyHash P (.ofString "__module__")) (.str (.ofString "__module__") 287) (.str (.ofString "grammarmill.source") 278), .mk (PyData.keyHash P (.ofString "__firstlineno__")) (.str (.ofString "__firstlineno__") 291) (.int 10 290), .mk (PyData.keyHash P (.ofString "__init__")) (.str (.ofString "__init__") 300) (.ref (39:Nat)), .mk (PyData.keyHash P (.ofString "told")) (.str (.ofString "told") 307) (.ref (46:Nat)), .mk (PyData.keyHash P (.ofString "__static_attributes__")) (.str (.ofString "__static_attributes__") 310) (.ref (47:Nat)), .mk (PyData.keyHash P (.ofString "__weakref__")) (.str (.ofString "__weakref__") 312) (.ref (50:Nat)), .mk (PyData.keyHash P (.ofString "__doc__")) (.str (.ofString "__doc__") 313) .none] 3) #[]) :: (nat_lit 49, .mk (.type "type") none (.cls (.mk (.ofString "ToolError") [.type "Exception"] [.ref (49:Nat), .type "Exception", .type "BaseException", .type "object"] 48 (.ofString "ToolError") true [] [.ref (62:Nat), .ref (74:Nat)] false none false)) #[some (.ref (25:Nat)), none, some (.str (.ofString "ToolError") 280), some (.str (.ofString "ToolError") 288), some (.builtin "Exception.__new__"), some (.bool true)]) :: (nat_lit 50, .mk (.type "getset_descriptor") none (.fields #[.str (.ofString "__weakref__") 311, .ref (49:Nat), .builtin "ExceptionGroup.__weakref__", .none]) #[]) :: (nat_lit 53, .mk (.type "tuple") none (.seq #[.ref (49:Nat)] 0) #[]) :: (nat_lit 60, .mk (.type "tuple") none (.seq #[] 0) #[]) :: (nat_lit 61, .mk (.type "dict") none (.dict #[.mk (PyData.keyHash P (.ofString "__module__")) (.str (.ofString "__module__") 325) (.str (.ofString "grammarmill.source") 278), .mk (PyData.keyHash P (.ofString "__firstlineno__")) (.str (.ofString "__firstlineno__") 329) (.int 19 328), .mk (PyData.keyHash P (.ofString "__static_attributes__")) (.str (.ofString "__static_attributes__") 330) (.ref (60:Nat)), .mk (PyData.keyHash P (.ofString "__doc__")) (.str (.ofString "__doc__") 331) .none] 2) #[]) :: (nat_lit 62, .mk (.type "type") none (.cls (.mk (.ofString "ActionError") [.ref (49:Nat)] [.ref (62:Nat), .ref (49:Nat), .type "Exception", .type "BaseException", .type "object"] 61 (.ofString "ActionError") true [] [] false none false)) #[some (.ref (53:Nat)), none, some (.str (.ofString "ActionError") 318), some (.str (.ofString "ActionError") 326), some (.builtin "Exception.__new__"), some (.bool true)]) :: (nat_lit 65, .mk (.type "tuple") none (.seq #[.ref (49:Nat)] 0) #[]) :: (nat_lit 72, .mk (.type "tuple") none (.seq #[] 0) #[]) :: (nat_lit 73, .mk (.type "dict") none (.dict #[.mk (PyData.keyHash P (.ofString "__module__")) (.str (.ofString "__module__") 341) (.str (.ofString "grammarmill.source") 278), .mk (PyData.keyHash P (.ofString "__firstlineno__")) (.str (.ofString "__firstlineno__") 345) (.int 21 344), .mk (PyData.keyHash P (.ofString "__static_attributes__")) (.str (.ofString "__static_attributes__") 346) (.ref (72:Nat)), .mk (PyData.keyHash P (.ofString "__doc__")) (.str (.ofString "__doc__") 347) .none] 2) #[]) :: (nat_lit 74, .mk (.type "type") none (.cls (.mk (.ofString "MachineError") [.ref (49:Nat)] [.ref (74:Nat), .ref (49:Nat), .type "Exception", .type "BaseException", .type "object"] 73 (.ofString "MachineError") true [] [] false none false)) #[some (.ref (65:Nat)), none, some (.str (.ofString "MachineError") 334), some (.str (.ofString "MachineError") 342), some (.builtin "Exception.__new__"), some (.bool true)]) :: (nat_lit 77, .mk (.type "tuple") none (.seq #[.str (.ofString "YYERROR") 352, .str (.ofString "YYABORT") 353, .str (.ofString "YYACCEPT") 354] 0) #[]) :: (nat_lit 78, .mk (.type "tuple") none (.seq #[.str (.ofString "==") 356, .str (.ofString "!=") 357, .str (.ofString "<") 358, .str (.ofString "<=") 359, .str (.ofString ">") 360, .str (.ofString ">=") 361] 0) #[]) :: (nat_lit 79, .mk (.type "tuple") none (.seq #[.str (.ofString "jump") 363, .str (.ofString "unless") 364, .str (.ofString "when") 365] 0) #[]) :: (nat_lit 80, .mk (.type "tuple") none (.seq #[] 0) #[]) :: (nat_lit 82, .mk (.type "tuple") none (.seq #[.str (.ofString "value") 372] 0) #[]) :: (nat_lit 83, .mk (.type "tuple") none (.seq #[] 0) #[]) :: (nat_lit 85, .mk (.type "code") none (.fields #[.str (.ofString "is_number") 369, .str (.ofString "is_number") 370, .str (.ofString "/claim/cut.py") 371, .int 28 0, .int 1 0, .int 0 0, .int 0 0, .int 3 0, .ref (80:Nat), .bool true, .int 181 0, .ref (81:Nat), .none, .ref (82:Nat), .ref (83:Nat), .ref (84:Nat), .int 373 0, .int 28 0, .str (.ofString "/claim/cut.py") 374]) #[]) :: (nat_lit 86, .mk (.type "function") none (.func (.mk (.ofString "is_number") (.ofString "is_number") a86 (.stmts b86) c86 3 [] .none .none .none (.str (.ofString "grammarmill.codes") 350) none (.ref (85:Nat)) .none 0)) #[]) :: (nat_lit 87, .mk (.type "tuple") none (.seq #[] 0) #[]) :: (nat_lit 89, .mk (.type "tuple") none (.seq #[.str (.ofString "value") 379] 0) #[]) :: (nat_lit 90, .mk (.type "tuple") none (.seq #[] 0) #[]) :: (nat_lit 92, .mk (.type "code") none (.fields #[.str (.ofString "is_true") 376, .str (.ofString "is_true") 377, .str (.ofString "/claim/cut.py") 378, .int 30 0, .int 1 0, .int 0 0, .int 0 0, .int 3 0, .ref (87:Nat), .bool true, .int 181 0, .ref (88:Nat), .none, .ref (89:Nat), .ref (90:Nat), .ref (91:Nat), .int 380 0, .int 30 0, .str (.ofString "/claim/cut.py") 381]) #[]) :: (nat_lit 93, .mk (.type "function") none (.func (.mk (.ofString "is_true") (.ofString "is_true") a93 (.stmts b93) c93 3 [] .none .none .none (.str (.ofString "grammarmill.codes") 350) none (.ref (92:Nat)) .none 0)) #[]) :: (nat_lit 94, .mk (.type "tuple") none (.seq #[] 0) #[]) :: (nat_lit 96, .mk (.type "tuple") none (.seq #[.str (.ofString "value") 386] 0) #[]) :: (nat_lit 97, .mk (.type "tuple") none (.seq #[] 0) #[]) :: (nat_lit 99, .mk (.type "code") none (.fields #[.str (.ofString "bounded") 383, .str (.ofString "bounded") 384, .str (.ofString "/claim/cut.py") 385, .int 32 0, .int 1 0, .int 0 0, .int 0 0, .int 3 0, .ref (94:Nat), .bool true, .int 181 0, .ref (95:Nat), .none, .ref (96:Nat), .ref (97:Nat), .ref (98:Nat), .int 387 0, .int 32 0, .str (.ofString "/claim/cut.py") 388]) #[]) :: (nat_lit 100, .mk (.type "function") none (.func (.mk (.ofString "bounded") (.ofString "bounded") a100 (.stmts b100) c100 3 [] .none .none .none (.str (.ofString "grammarmill.codes") 350) none (.ref (99:Nat)) .none 0)) #[]) :: (nat_lit 101, .mk (.type "tuple") none (.seq #[] 0) #[]) :: (nat_lit 103, .mk (.type "tuple") none (.seq #[.str (.ofString "left") 393, .str (.ofString "right") 394, .str (.ofString "is_fit") 395] 0) #[]) :: (nat_lit 104, .mk (.type "tuple") none (.seq #[] 0) #[]) :: (nat_lit 106, .mk (.type "code") none (.fields #[.str (.ofString "added") 390, .str (.ofString "added") 391, .str (.ofString "/claim/cut.py") 392, .int 39 0, .int 2 0, .int 0 0, .int 0 0, .int 3 0, .ref (101:Nat), .bool true, .int 181 0, .ref (102:Nat), .none, .ref (103:Nat), .ref (104:Nat), .ref (105:Nat), .int 396 0, .int 39 0, .str (.ofString "/claim/cut.py") 397]) #[]) :: (nat_lit 107, .mk (.type "function") none (.func (.mk (.ofString "added") (.ofString "added") a107 (.stmts b107) c107 3 [] .none .none .none (.str (.ofString "grammarmill.codes") 350) none (.ref (106:Nat)) .none 0)) #[]) :: (nat_lit 108, .mk (.type "tuple") none (.seq #[] 0) #[]) :: (nat_lit 110, .mk (.type "tuple") none (.seq #[.str (.ofString "sign") 402, .str (.ofString "left") 403, .str (.ofString "right") 404, .str (.ofString "is_fit") 405] 0) #[]) :: (nat_lit 111, .mk (.type "tuple") none (.seq #[] 0) #[]) :: (nat_lit 113, .mk (.type "code") none (.fields #[.str (.ofString "compared") 399, .str (.ofString "compared") 400, .str (.ofString "/claim/cut.py") 401, .int 44 0, .int 3 0, .int 0 0, .int 0 0, .int 3 0, .ref (108:Nat), .bool true, .int 181 0, .ref (109:Nat), .none, .ref (110:Nat), .ref (111:Nat), .ref (112:Nat), .int 406 0, .int 44 0, .str (.ofString "/claim/cut.py") 407]) #[]) :: (nat_lit 114, .mk (.type "function") none (.func (.mk (.ofString "compared") (.ofString "compared") a114 (.stmts b114) c114 3 [] .none .none .none (.str (.ofString "grammarmill.codes") 350) none (.ref (113:Nat)) .none 0)) #[]) :: (nat_lit 115, .mk (.type "tuple") none (.seq #[] 0) #[]) :: (nat_lit 117, .mk (.type "tuple") none (.seq #[.str (.ofString "value") 412, .str (.ofString "waiting") 413, .str (.ofString "count") 414, .str (.ofString "part") 415] 0) #[]) :: (nat_lit 118, .mk (.type "tuple") none (.seq #[] 0) #[]) :: (nat_lit 120, .mk (.type "code") none (.fields #[.str (.ofString "part_count") 409, .str (.ofString "part_count") 410, .str (.ofString "/claim/cut.py") 411, .int 55 0, .int 1 0, .int 0 0, .int 0 0, .int 3 0, .ref (115:Nat), .bool true, .int 181 0, .ref (116:Nat), .none, .ref (117:Nat), .ref (118:Nat), .ref (119:Nat), .int 416 0, .int 55 0, .str (.ofString "/claim/cut.py") 417]) #[]) :: (nat_lit 121, .mk (.type "function") none (.func (.mk (.ofString "part_count") (.ofString "part_count") a121 (.stmts b121) c121 3 [] .none .none .none (.str (.ofString "grammarmill.codes") 350) none (.ref (120:Nat)) .none 0)) #[]) :: (nat_lit 122, .mk (.type "tuple") none (.seq #[] 0) #[]) :: (nat_lit 124, .mk (.type "tuple") none (.seq #[.str (.ofString "left") 422, .str (.ofString "right") 423] 0) #[]) :: (nat_lit 125, .mk (.type "tuple") none (.seq #[] 0) #[]) :: (nat_lit 127, .mk (.type "code") none (.fields #[.str (.ofString "are_equal") 419, .str (.ofString "are_equal") 420, .str (.ofString "/claim/cut.py") 421, .int 63 0, .int 2 0, .int 0 0, .int 0 0, .int 3 0, .ref (122:Nat), .bool true, .int 181 0, .ref (123:Nat), .none, .ref (124:Nat), .ref (125:Nat), .ref (126:Nat), .int 424 0, .int 63 0, .str (.ofString "/claim/cut.py") 425]) #[]) :: (nat_lit 128, .mk (.type "function") none (.func (.mk (.ofString "are_equal") (.ofString "are_equal") a128 (.stmts b128) c128 3 [] .none .none .none (.str (.ofString "grammarmill.codes") 350) none (.ref (127:Nat)) .none 0)) #[]) :: (nat_lit 129, .mk (.type "tuple") none (.seq #[] 0) #[]) :: (nat_lit 131, .mk (.type "tuple") none (.seq #[.str (.ofString "sign") 430, .str (.ofString "left") 431, .str (.ofString "right") 432] 0) #[]) :: (nat_lit 132, .mk (.type "tuple") none (.seq #[] 0) #[]) :: (nat_lit 134, .mk (.type "code") none (.fields #[.str (.ofString "two_worth") 427, .str (.ofString "two_worth") 428, .str (.ofString "/claim/cut.py") 429, .int 67 0, .int 3 0, .int 0 0, .int 0 0, .int 3 0, .ref (129:Nat), .bool true, .int 181 0, .ref (130:Nat), .none, .ref (131:Nat), .ref (132:Nat), .ref (133:Nat), .int 433 0, .int 67 0, .str (.ofString "/claim/cut.py") 434]) #[]) :: (nat_lit 135, .mk (.type "function") none (.func (.mk (.ofString "two_worth") (.ofString "two_worth") a135 (.stmts b135) c135 3 [] .none .none .none (.str (.ofString "grammarmill.codes") 350) none (.ref (134:Nat)) .none 0)) #[]) :: (nat_lit 136, .mk (.type "tuple") none (.seq #[] 0) #[]) :: (nat_lit 138, .mk (.type "tuple") none (.seq #[.str (.ofString "sign") 439, .str (.ofString "value") 440] 0) #[]) :: (nat_lit 139, .mk (.type "tuple") none (.seq #[] 0) #[]) :: (nat_lit 141, .mk (.type "code") none (.fields #[.str (.ofString "one_worth") 436, .str (.ofString "one_worth") 437, .str (.ofString "/claim/cut.py") 438, .int 85 0, .int 2 0, .int 0 0, .int 0 0, .int 3 0, .ref (136:Nat), .bool true, .int 181 0, .ref (137:Nat), .none, .ref (138:Nat), .ref (139:Nat), .ref (140:Nat), .int 441 0, .int 85 0, .str (.ofString "/claim/cut.py") 442]) #[]) :: (nat_lit 142, .mk (.type "function") none (.func (.mk (.ofString "one_worth") (.ofString "one_worth") a142 (.stmts b142) c142 3 [] .none .none .none (.str (.ofString "grammarmill.codes") 350) none (.ref (141:Nat)) .none 0)) #[]) :: (nat_lit 143, .mk (.type "tuple") none (.seq #[] 0) #[]) :: (nat_lit 145, .mk (.type "tuple") none (.seq #[.str (.ofString "code") 447, .str (.ofString "at") 448, .str (.ofString "op") 449, .str (.ofString "worth") 450] 0) #[]) :: (nat_lit 146, .mk (.type "tuple") none (.seq #[] 0) #[]) :: (nat_lit 148, .mk (.type "code") none (.fields #[.str (.ofString "goals_behind") 444, .str (.ofString "goals_behind") 445, .str (.ofString "/claim/cut.py") 446, .int 91 0, .int 2 0, .int 0 0, .int 0 0, .int 3 0, .ref (143:Nat), .bool true, .int 181 0, .ref (144:Nat), .none, .ref (145:Nat), .ref (146:Nat), .ref (147:Nat), .int 451 0, .int 91 0, .str (.ofString "/claim/cut.py") 452]) #[]) :: (nat_lit 149, .mk (.type "function") none (.func (.mk (.ofString "goals_behind") (.ofString "goals_behind") a149 (.stmts b149) c149 3 [] .none .none .none (.str (.ofString "grammarmill.codes") 350) none (.ref (148:Nat)) .none 0)) #[]) :: (nat_lit 150, .mk (.type "tuple") none (.seq #[] 0) #[]) :: (nat_lit 152, .mk (.type "tuple") none (.seq #[.str (.ofString "op") 457, .str (.ofString "worth") 458] 0) #[]) :: (nat_lit 153, .mk (.type "tuple") none (.seq #[] 0) #[]) :: (nat_lit 155, .mk (.type "code") none (.fields #[.str (.ofString "taken_and_put") 454, .str (.ofString "taken_and_put") 455, .str (.ofString "/claim/cut.py") 456, .int 100 0, .int 2 0, .int 0 0, .int 0 0, .int 3 0, .ref (150:Nat), .bool true, .int 181 0, .ref (151:Nat), .none, .ref (152:Nat), .ref (153:Nat), .ref (154:Nat), .int 459 0, .int 100 0, .str (.ofString "/claim/cut.py") 460]) #[]) :: (nat_lit 156, .mk (.type "function") none (.func (.mk (.ofString "taken_and_put") (.ofString "taken_and_put") a156 (.stmts b156) c156 3 [] .none .none .none (.str (.ofString "grammarmill.codes") 350) none (.ref (155:Nat)) .none 0)) #[]) :: (nat_lit 157, .mk (.type "tuple") none (.seq #[] 0) #[]) :: (nat_lit 159, .mk (.type "tuple") none (.seq #[.str (.ofString "worth") 465] 0) #[]) :: (nat_lit 160, .mk (.type "tuple") none (.seq #[] 0) #[]) :: (nat_lit 162, .mk (.type "code") none (.fields #[.str (.ofString "is_bounded") 462, .str (.ofString "is_bounded") 463, .str (.ofString "/claim/cut.py") 464, .int 114 0, .int 1 0, .int 0 0, .int 0 0, .int 3 0, .ref (157:Nat), .bool true, .int 181 0, .ref (158:Nat), .none, .ref (159:Nat), .ref (160:Nat), .ref (161:Nat), .int 466 0, .int 114 0, .str (.ofString "/claim/cut.py") 467]) #[]) :: (nat_lit 163, .mk (.type "function") none (.func (.mk (.ofString "is_bounded") (.ofString "is_bounded") a163 (.stmts b163) c163 3 [] .none .none .none (.str (.ofString "grammarmill.codes") 350) none (.ref (162:Nat)) .none 0)) #[]) :: (nat_lit 164, .mk (.type "tuple") none (.seq #[] 0) #[]) :: (nat_lit 166, .mk (.type "tuple") none (.seq #[.str (.ofString "op") 472, .str (.ofString "worth") 473, .str (.ofString "length") 474] 0) #[]) :: (nat_lit 167, .mk (.type "tuple") none (.seq #[] 0) #[]) :: (nat_lit 169, .mk (.type "code") none (.fields #[.str (.ofString "is_pair") 469, .str (.ofString "is_pair") 470, .str (.ofString "/claim/cut.py") 471, .int 118 0, .int 3 0, .int 0 0, .int 0 0, .int 3 0, .ref (164:Nat), .bool true, .int 181 0, .ref (165:Nat), .none, .ref (166:Nat), .ref (167:Nat), .ref (168:Nat), .int 475 0, .int 118 0, .str (.ofString "/claim/cut.py") 476]) #[]) :: (nat_lit 170, .mk (.type "function") none (.func (.mk (.ofString "is_pair") (.ofString "is_pair") a170 (.stmts b170) c170 3 [] .none .none .none (.str (.ofString "grammarmill.codes") 350) none (.ref (169:Nat)) .none 0)) #[]) :: (nat_lit 171, .mk (.type "tuple") none (.seq #[] 0) #[]) :: (nat_lit 174, .mk (.type "code") none (.fields #[.str (.ofString "check_code") 478, .str (.ofString "check_code") 479, .str (.ofString "/claim/cut.py") 480, .int 136 0, .int 1 0, .int 0 0, .int 0 0, .int 3 0, .ref (171:Nat), .bool true, .int 181 0, .ref (172:Nat), .none, .none, .none, .ref (173:Nat), .int 481 0, .int 136 0, .str (.ofString "/claim/cut.py") 482]) #[]) :: (nat_lit 175, .mk (.type "function") none (.func (.mk (.ofString "check_code") (.ofString "check_code") a175 (.stmts b175) c175 3 [] .none .none .none (.str (.ofString "grammarmill.codes") 350) none (.ref (174:Nat)) .none 0)) #[]) :: (nat_lit 176, .mk (.type "tuple") none (.seq #[] 0) #[]) :: (nat_lit 178, .mk (.type "tuple") none (.seq #[.str (.ofString "code") 487, .str (.ofString "rows") 488, .str (.ofString "at") 489, .str (.ofString "pair") 490, .str (.ofString "worth") 491] 0) #[]) :: (nat_lit 179, .mk (.type "tuple") none (.seq #[] 0) #[]) :: (nat_lit 181, .mk (.type "code") none (.fields #[.str (.ofString "show_code") 484, .str (.ofString "show_code") 485, .str (.ofString "/claim/cut.py") 486, .int 157 0, .int 1 0, .int 0 0, .int 0 0, .int 3 0, .ref (176:Nat), .bool true, .int 181 0, .ref (177:Nat), .none, .ref (178:Nat), .ref (179:Nat), .ref (180:Nat), .int 492 0, .int 157 0, .str (.ofString "/claim/cut.py") 493]) #[]) :: (nat_lit 182, .mk (.type "function") none (.func (.mk (.ofString "show_code") (.ofString "show_code") a182 (.stmts b182) c182 3 [] .none .none .none (.str (.ofString "grammarmill.codes") 350) none (.ref (181:Nat)) .none 0)) #[]) :: (nat_lit 190, .mk (.type "tuple") none (.seq #[] 0) #[]) :: (nat_lit 192, .mk (.type "tuple") none (.seq #[.str (.ofString "self") 512, .str (.ofString "token") 513] 0) #[]) :: (nat_lit 193, .mk (.type "tuple") none (.seq #[] 0) #[]) :: (nat_lit 195, .mk (.type "code") none (.fields #[.str (.ofString "shift") 509, .str (.ofString "Handler.shift") 510, .str (.ofString "/claim/cut.py") 511, .int 166 0, .int 2 0, .int 0 0, .int 0 0, .int 3 0, .ref (190:Nat), .bool true, .int 181 0, .ref (191:Nat), .none, .ref (192:Nat), .ref (193:Nat), .ref (194:Nat), .int 514 0, .int 166 0, .str (.ofString "/claim/cut.py") 515]) #[]) :: (nat_lit 196, .mk (.type "function") none (.func (.mk (.ofString "shift") (.ofString "Handler.shift") a196 (.stmts b196) c196 3 [] .none .none .none (.str (.ofString "grammarmill.driver") 495) none (.ref (195:Nat)) .none 0)) #[]) :: (nat_lit 197, .mk (.type "tuple") none (.seq #[] 0) #[]) :: (nat_lit 199, .mk (.type "tuple") none (.seq #[.str (.ofString "self") 520, .str (.ofString "rule") 521, .str (.ofString "values") 522, .str (.ofString "control") 523] 0) #[]) :: (nat_lit 200, .mk (.type "tuple") none (.seq #[] 0) #[]) :: (nat_lit 202, .mk (.type "code") none (.fields #[.str (.ofString "reduce") 517, .str (.ofString "Handler.reduce") 518, .str (.ofString "/claim/cut.py") 519, .int 169 0, .int 4 0, .int 0 0, .int 0 0, .int 3 0, .ref (197:Nat), .bool true, .int 181 0, .ref (198:Nat), .none, .ref (199:Nat), .ref (200:Nat), .ref (201:Nat), .int 524 0, .int 169 0, .str (.ofString "/claim/cut.py") 525]) #[]) :: (nat_lit 203, .mk (.type "function") none (.func (.mk (.ofString "reduce") (.ofString "Handler.reduce") a203 (.stmts b203) c203 3 [] .none .none .none (.str (.ofString "grammarmill.driver") 495) none (.ref (202:Nat)) .none 0)) #[]) :: (nat_lit 204, .mk (.type "tuple") none (.seq #[] 0) #[]) :: (nat_lit 206, .mk (.type "tuple") none (.seq #[.str (.ofString "self") 530] 0) #[]) :: (nat_lit 207, .mk (.type "tuple") none (.seq #[] 0) #[]) :: (nat_lit 209, .mk (.type "code") none (.fields #[.str (.ofString "recover") 527, .str (.ofString "Handler.recover") 528, .str (.ofString "/claim/cut.py") 529, .int 172 0, .int 1 0, .int 0 0, .int 0 0, .int 3 0, .ref (204:Nat), .bool true, .int 181 0, .ref (205:Nat), .none, .ref (206:Nat), .ref (207:Nat), .ref (208:Nat), .int 531 0, .int 172 0, .str (.ofString "/claim/cut.py") 532]) #[]) :: (nat_lit 210, .mk (.type "function") none (.func (.mk (.ofString "recover") (.ofString "Handler.recover") a210 (.stmts b210) c46 3 [] .none .none .none (.str (.ofString "grammarmill.driver") 495) none (.ref (209:Nat)) .none 0)) #[]) :: (nat_lit 211, .mk (.type "tuple") none (.seq #[] 0) #[]) :: (nat_lit 212, .mk (.type "dict") none (.dict #[.mk (PyData.keyHash P (.ofString "__module__")) (.str (.ofString "__module__") 504) (.str (.ofString "grammarmill.driver") 495), .mk (PyData.keyHash P (.ofString "__firstlineno__")) (.str (.ofString "__firstlineno__") 508) (.int 164 507), .mk (PyData.keyHash P (.ofString "shift")) (.str (.ofString "shift") 516) (.ref (196:Nat)), .mk (PyData.keyHash P (.ofString "reduce")) (.str (.ofString "reduce") 526) (.ref (203:Nat)), .mk (PyData.keyHash P (.ofString "recover")) (.str (.ofString "recover") 533) (.ref (210:Nat)), .mk (PyData.keyHash P (.ofString "__static_attributes__")) (.str (.ofString "__static_attributes__") 534) (.ref (211:Nat)), .mk (PyData.keyHash P (.ofString "__dict__")) (.str (.ofString "__dict__") 536) (.ref (214:Nat)), .mk (PyData.keyHash P (.ofString "__weakref__")) (.str (.ofString "__weakref__") 538) (.ref (215:Nat)), .mk (PyData.keyHash P (.ofString "__doc__")) (.str (.ofString "__doc__") 539) .none] 4) #[]) :: (nat_lit 213, .mk (.type "type") none (.cls (.mk (.ofString "Handler") [.type "object"] [.ref (213:Nat), .type "object"] 212 (.ofString "Handler") true [] [.ref (479:Nat)] false none false)) #[none, none, some (.str (.ofString "Handler") 497), some (.str (.ofString "Handler") 505), some (.builtin "object.__new__"), some (.bool true)]) :: (nat_lit 214, .mk (.type "getset_descriptor") none (.fields #[.str (.ofString "__dict__") 535, .ref (213:Nat), .builtin "function.__dict__", .builtin "function.__dict__#set"]) #[]) :: (nat_lit 215, .mk (.type "getset_descriptor") none (.fields #[.str (.ofString "__weakref__") 537, .ref (213:Nat), .builtin "ExceptionGroup.__weakref__", .none]) #[]) :: (nat_lit 218, .mk (.type "tuple") none (.seq #[] 0) #[]) :: (nat_lit 220, .mk (.type "tuple") none (.seq #[.str (.ofString "is_right") 549, .str (.ofString "what") 550] 0) #[]) :: (nat_lit 221, .mk (.type "tuple") none (.seq #[] 0) #[]) :: (nat_lit 223, .mk (.type "code") none (.fields #[.str (.ofString "need") 546, .str (.ofString "need") 547, .str (.ofString "/claim/cut.py") 548, .int 176 0, .int 2 0, .int 0 0, .int 0 0, .int 3 0, .ref (218:Nat), .bool true, .int 181 0, .ref (219:Nat), .none, .ref (220:Nat), .ref (221:Nat), .ref (222:Nat), .int 551 0, .int 176 0, .str (.ofString "/claim/cut.py") 552]) #[]) :: (nat_lit 224, .mk (.type "function") none (.func (.mk (.ofString "need") (.ofString "need") a224 (.stmts b224) c224 3 [] .none .none .none (.str (.ofString "grammarmill.machine") 542) none (.ref (223:Nat)) .none 0)) #[]) :: (nat_lit 225, .mk (.type "tuple") none (.seq #[] 0) #[]) :: (nat_lit 227, .mk (.type "tuple") none (.seq #[.str (.ofString "value") 557] 0) #[]) :: (nat_lit 228, .mk (.type "tuple") none (.seq #[] 0) #[]) :: (nat_lit 230, .mk (.type "code") none (.fields #[.str (.ofString "need_list") 554, .str (.ofString "need_list") 555, .str (.ofString "/claim/cut.py") 556, .int 179 0, .int 1 0, .int 0 0, .int 0 0, .int 3 0, .ref (225:Nat), .bool true, .int 181 0, .ref (226:Nat), .none, .ref (227:Nat), .ref (228:Nat), .ref (229:Nat), .int 558 0, .int 179 0, .str (.ofString "/claim/cut.py") 559]) #[]) :: (nat_lit 231, .mk (.type "function") none (.func (.mk (.ofString "need_list") (.ofString "need_list") a231 (.stmts b231) c231 3 [] .none .none .none (.str (.ofString "grammarmill.machine") 542) none (.ref (230:Nat)) .none 0)) #[]) :: (nat_lit 232, .mk (.type "tuple") none (.seq #[] 0) #[]) :: (nat_lit 234, .mk (.type "tuple") none (.seq #[.str (.ofString "value") 564] 0) #[]) :: (nat_lit 235, .mk (.type "tuple") none (.seq #[] 0) #[]) :: (nat_lit 237, .mk (.type "code") none (.fields #[.str (.ofString "need_row") 561, .str (.ofString "need_row") 562, .str (.ofString "/claim/cut.py") 563, .int 182 0, .int 1 0, .int 0 0, .int 0 0, .int 3 0, .ref (232:Nat), .bool true, .int 181 0, .ref (233:Nat), .none, .ref (234:Nat), .ref (235:Nat), .ref (236:Nat), .int 565 0, .int 182 0, .str (.ofString "/claim/cut.py") 566]) #[]) :: (nat_lit 238, .mk (.type "function") none (.func (.mk (.ofString "need_row") (.ofString "need_row") a238 (.stmts b238) c238 3 [] .none .none .none (.str (.ofString "grammarmill.machine") 542) none (.ref (237:Nat)) .none 0)) #[]) :: (nat_lit 239, .mk (.type "tuple") none (.seq #[] 0) #[]) :: (nat_lit 241, .mk (.type "tuple") none (.seq #[.str (.ofString "value") 571, .str (.ofString "least") 572, .str (.ofString "most") 573] 0) #[]) :: (nat_lit 242, .mk (.type "tuple") none (.seq #[] 0) #[]) :: (nat_lit 244, .mk (.type "code") none (.fields #[.str (.ofString "need_number") 568, .str (.ofString "need_number") 569, .str (.ofString "/claim/cut.py") 570, .int 185 0, .int 3 0, .int 0 0, .int 0 0, .int 3 0, .ref (239:Nat), .bool true, .int 181 0, .ref (240:Nat), .none, .ref (241:Nat), .ref (242:Nat), .ref (243:Nat), .int 574 0, .int 185 0, .str (.ofString "/claim/cut.py") 575]) #[]) :: (nat_lit 245, .mk (.type "function") none (.func (.mk (.ofString "need_number") (.ofString "need_number") a245 (.stmts b245) c245 3 [] .none .none .none (.str (.ofString "grammarmill.machine") 542) none (.ref (244:Nat)) .none 0)) #[]) :: (nat_lit 246, .mk (.type "tuple") none (.seq #[] 0) #[]) :: (nat_lit 248, .mk (.type "tuple") none (.seq #[.str (.ofString "value") 580, .str (.ofString "figures") 581, .str (.ofString "total") 582, .str (.ofString "sign") 583] 0) #[]) :: (nat_lit 249, .mk (.type "tuple") none (.seq #[] 0) #[]) :: (nat_lit 251, .mk (.type "code") none (.fields #[.str (.ofString "number_of") 577, .str (.ofString "number_of") 578, .str (.ofString "/claim/cut.py") 579, .int 188 0, .int 1 0, .int 0 0, .int 0 0, .int 3 0, .ref (246:Nat), .bool true, .int 181 0, .ref (247:Nat), .none, .ref (248:Nat), .ref (249:Nat), .ref (250:Nat), .int 584 0, .int 188 0, .str (.ofString "/claim/cut.py") 585]) #[]) :: (nat_lit 252, .mk (.type "function") none (.func (.mk (.ofString "number_of") (.ofString "number_of") a252 (.stmts b252) c252 3 [] .none .none .none (.str (.ofString "grammarmill.machine") 542) none (.ref (251:Nat)) .none 0)) #[]) :: (nat_lit 253, .mk (.type "tuple") none (.seq #[] 0) #[]) :: (nat_lit 255, .mk (.type "tuple") none (.seq #[.str (.ofString "value") 590] 0) #[]) :: (nat_lit 256, .mk (.type "tuple") none (.seq #[] 0) #[]) :: (nat_lit 258, .mk (.type "code") none (.fields #[.str (.ofString "text_of") 587, .str (.ofString "text_of") 588, .str (.ofString "/claim/cut.py") 589, .int 197 0, .int 1 0, .int 0 0, .int 0 0, .int 3 0, .ref (253:Nat), .bool true, .int 181 0, .ref (254:Nat), .none, .ref (255:Nat), .ref (256:Nat), .ref (257:Nat), .int 591 0, .int 197 0, .str (.ofString "/claim/cut.py") 592]) #[]) :: (nat_lit 259, .mk (.type "function") none (.func (.mk (.ofString "text_of") (.ofString "text_of") a259 (.stmts b259) c259 3 [] .none .none .none (.str (.ofString "grammarmill.machine") 542) none (.ref (258:Nat)) .none 0)) #[]) :: (nat_lit 260, .mk (.type "tuple") none (.seq #[] 0) #[]) :: (nat_lit 262, .mk (.type "tuple") none (.seq #[.str (.ofString "parts") 597, .str (.ofString "between") 598, .str (.ofString "part") 599] 0) #[]) :: (nat_lit 263, .mk (.type "tuple") none (.seq #[] 0) #[]) :: (nat_lit 265, .mk (.type "code") none (.fields #[.str (.ofString "glued") 594, .str (.ofString "glued") 595, .str (.ofString "/claim/cut.py") 596, .int 200 0, .int 2 0, .int 0 0, .int 0 0, .int 3 0, .ref (260:Nat), .bool true, .int 181 0, .ref (261:Nat), .none, .ref (262:Nat), .ref (263:Nat), .ref (264:Nat), .int 600 0, .int 200 0, .str (.ofString "/claim/cut.py") 601]) #[]) :: (nat_lit 266, .mk (.type "function") none (.func (.mk (.ofString "glued") (.ofString "glued") a266 (.stmts b266) c266 3 [] .none .none .none (.str (.ofString "grammarmill.machine") 542) none (.ref (265:Nat)) .none 0)) #[]) :: (nat_lit 267, .mk (.type "tuple") none (.seq #[] 0) #[]) :: (nat_lit 269, .mk (.type "tuple") none (.seq #[.str (.ofString "value") 606] 0) #[]) :: (nat_lit 270, .mk (.type "tuple") none (.seq #[] 0) #[]) :: (nat_lit 272, .mk (.type "code") none (.fields #[.str (.ofString "turned") 603, .str (.ofString "turned") 604, .str (.ofString "/claim/cut.py") 605, .int 205 0, .int 1 0, .int 0 0, .int 0 0, .int 3 0, .ref (267:Nat), .bool true, .int 181 0, .ref (268:Nat), .none, .ref (269:Nat), .ref (270:Nat), .ref (271:Nat), .int 607 0, .int 205 0, .str (.ofString "/claim/cut.py") 608]) #[]) :: (nat_lit 273, .mk (.type "function") none (.func (.mk (.ofString "turned") (.ofString "turned") a273 (.stmts b273) c273 3 [] .none .none .none (.str (.ofString "grammarmill.machine") 542) none (.ref (272:Nat)) .none 0)) #[]) :: (nat_lit 274, .mk (.type "tuple") none (.seq #[] 0) #[]) :: (nat_lit 276, .mk (.type "tuple") none (.seq #[.str (.ofString "value") 613, .str (.ofString "number") 614] 0) #[]) :: (nat_lit 277, .mk (.type "tuple") none (.seq #[] 0) #[]) :: (nat_lit 279, .mk (.type "code") none (.fields #[.str (.ofString "item_of") 610, .str (.ofString "item_of") 611, .str (.ofString "/claim/cut.py") 612, .int 207 0, .int 2 0, .int 0 0, .int 0 0, .int 3 0, .ref (274:Nat), .bool true, .int 181 0, .ref (275:Nat), .none, .ref (276:Nat), .ref (277:Nat), .ref (278:Nat), .int 615 0, .int 207 0, .str (.ofString "/claim/cut.py") 616]) #[]) :: (nat_lit 280, .mk (.type "function") none (.func (.mk (.ofString "item_of") (.ofString "item_of") a280 (.stmts b280) c280 3 [] .none .none .none (.str (.ofString "grammarmill.machine") 542) none (.ref (279:Nat)) .none 0)) #[]) :: (nat_lit 281, .mk (.type "tuple") none (.seq #[] 0) #[]) :: (nat_lit 283, .mk (.type "tuple") none (.seq #[.str (.ofString "value") 621, .str (.ofString "begin") 622, .str (.ofString "end") 623] 0) #[]) :: (nat_lit 284, .mk (.type "tuple") none (.seq #[] 0) #[]) :: (nat_lit 286, .mk (.type "code") none (.fields #[.str (.ofString "cut_of") 618, .str (.ofString "cut_of") 619, .str (.ofString "/claim/cut.py") 620, .int 210 0, .int 3 0, .int 0 0, .int 0 0, .int 3 0, .ref (281:Nat), .bool true, .int 181 0, .ref (282:Nat), .none, .ref (283:Nat), .ref (284:Nat), .ref (285:Nat), .int 624 0, .int 210 0, .str (.ofString "/claim/cut.py") 625]) #[]) :: (nat_lit 287, .mk (.type "function") none (.func (.mk (.ofString "cut_of") (.ofString "cut_of") a287 (.stmts b287) c287 3 [] .none .none .none (.str (.ofString "grammarmill.machine") 542) none (.ref (286:Nat)) .none 0)) #[]) :: (nat_lit 288, .mk (.type "tuple") none (.seq #[] 0) #[]) :: (nat_lit 290, .mk (.type "tuple") none (.seq #[.str (.ofString "word") 630, .str (.ofString "value") 631] 0) #[]) :: (nat_lit 291, .mk (.type "tuple") none (.seq #[] 0) #[]) :: (nat_lit 293, .mk (.type "code") none (.fields #[.str (.ofString "end_of") 627, .str (.ofString "end_of") 628, .str (.ofString "/claim/cut.py") 629, .int 214 0, .int 2 0, .int 0 0, .int 0 0, .int 3 0, .ref (288:Nat), .bool true, .int 181 0, .ref (289:Nat), .none, .ref (290:Nat), .ref (291:Nat), .ref (292:Nat), .int 632 0, .int 214 0, .str (.ofString "/claim/cut.py") 633]) #[]) :: (nat_lit 294, .mk (.type "function") none (.func (.mk (.ofString "end_of") (.ofString "end_of") a294 (.stmts b294) c294 3 [] .none .none .none (.str (.ofString "grammarmill.machine") 542) none (.ref (293:Nat)) .none 0)) #[]) :: (nat_lit 295, .mk (.type "tuple") none (.seq #[] 0) #[]) :: (nat_lit 297, .mk (.type "tuple") none (.seq #[.str (.ofString "word") 638, .str (.ofString "value") 639] 0) #[]) :: (nat_lit 298, .mk (.type "tuple") none (.seq #[] 0) #[]) :: (nat_lit 300, .mk (.type "code") none (.fields #[.str (.ofString "call_of_one") 635, .str (.ofString "call_of_one") 636, .str (.ofString "/claim/cut.py") 637, .int 220 0, .int 2 0, .int 0 0, .int 0 0, .int 3 0, .ref (295:Nat), .bool true, .int 181 0, .ref (296:Nat), .none, .ref (297:Nat), .ref (298:Nat), .ref (299:Nat), .int 640 0, .int 220 0, .str (.ofString "/claim/cut.py") 641]) #[]) :: (nat_lit 301, .mk (.type "function") none (.func (.mk (.ofString "call_of_one") (.ofString "call_of_one") a301 (.stmts b301) c301 3 [] .none .none .none (.str (.ofString "grammarmill.machine") 542) none (.ref (300:Nat)) .none 0)) #[]) :: (nat_lit 302, .mk (.type "tuple") none (.seq #[] 0) #[]) :: (nat_lit 304, .mk (.type "tuple") none (.seq #[.str (.ofString "word") 646, .str (.ofString "values") 647] 0) #[]) :: (nat_lit 305, .mk (.type "tuple") none (.seq #[] 0) #[]) :: (nat_lit 307, .mk (.type "code") none (.fields #[.str (.ofString "applied") 643, .str (.ofString "applied") 644, .str (.ofString "/claim/cut.py") 645, .int 228 0, .int 2 0, .int 0 0, .int 0 0, .int 3 0, .ref (302:Nat), .bool true, .int 181 0, .ref (303:Nat), .none, .ref (304:Nat), .ref (305:Nat), .ref (306:Nat), .int 648 0, .int 228 0, .str (.ofString "/claim/cut.py") 649]) #[]) :: (nat_lit 308, .mk (.type "function") none (.func (.mk (.ofString "applied") (.ofString "applied") a308 (.stmts b308) c308 3 [] .none .none .none (.str (.ofString "grammarmill.machine") 542) none (.ref (307:Nat)) .none 0)) #[]) :: (nat_lit 309, .mk (.type "tuple") none (.seq #[] 0) #[]) :: (nat_lit 311, .mk (.type "tuple") none (.seq #[.str (.ofString "values") 654, .str (.ofString "number") 655] 0) #[]) :: (nat_lit 312, .mk (.type "tuple") none (.seq #[] 0) #[]) :: (nat_lit 314, .mk (.type "code") none (.fields #[.str (.ofString "value_at") 651, .str (.ofString "value_at") 652, .str (.ofString "/claim/cut.py") 653, .int 239 0, .int 2 0, .int 0 0, .int 0 0, .int 3 0, .ref (309:Nat), .bool true, .int 181 0, .ref (310:Nat), .none, .ref (311:Nat), .ref (312:Nat), .ref (313:Nat), .int 656 0, .int 239 0, .str (.ofString "/claim/cut.py") 657]) #[]) :: (nat_lit 315, .mk (.type "function") none (.func (.mk (.ofString "value_at") (.ofString "value_at") a315 (.stmts b315) c315 3 [] .none .none .none (.str (.ofString "grammarmill.machine") 542) none (.ref (314:Nat)) .none 0)) #[]) :: (nat_lit 316, .mk (.type "tuple") none (.seq #[] 0) #[]) :: (nat_lit 318, .mk (.type "tuple") none (.seq #[.str (.ofString "control") 662, .str (.ofString "word") 663] 0) #[]) :: (nat_lit 319, .mk (.type "tuple") none (.seq #[] 0) #[]) :: (nat_lit 321, .mk (.type "code") none (.fields #[.str (.ofString "controlled") 659, .str (.ofString "controlled") 660, .str (.ofString "/claim/cut.py") 661, .int 242 0, .int 2 0, .int 0 0, .int 0 0, .int 3 0, .ref (316:Nat), .bool true, .int 181 0, .ref (317:Nat), .none, .ref (318:Nat), .ref (319:Nat), .ref (320:Nat), .int 664 0, .int 242 0, .str (.ofString "/claim/cut.py") 665]) #[]) :: (nat_lit 322, .mk (.type "function") none (.func (.mk (.ofString "controlled") (.ofString "controlled") a322 (.stmts b322) c322 3 [] .none .none .none (.str (.ofString "grammarmill.machine") 542) none (.ref (321:Nat)) .none 0)) #[]) :: (nat_lit 330, .mk (.type "tuple") none (.seq #[] 0) #[]) :: (nat_lit 332, .mk (.type "tuple") none (.seq #[.str (.ofString "self") 682, .str (.ofString "values") 683, .str (.ofString "names") 684, .str (.ofString "control") 685, .str (.ofString "own") 686, .str (.ofString "most") 687] 0) #[]) :: (nat_lit 333, .mk (.type "tuple") none (.seq #[] 0) #[]) :: (nat_lit 335, .mk (.type "code") none (.fields #[.str (.ofString "__init__") 679, .str (.ofString "Frame.__init__") 680, .str (.ofString "/claim/cut.py") 681, .int 255 0, .int 6 0, .int 0 0, .int 0 0, .int 3 0, .ref (330:Nat), .bool true, .int 181 0, .ref (331:Nat), .none, .ref (332:Nat), .ref (333:Nat), .ref (334:Nat), .int 688 0, .int 255 0, .str (.ofString "/claim/cut.py") 689]) #[]) :: (nat_lit 336, .mk (.type "function") none (.func (.mk (.ofString "__init__") (.ofString "Frame.__init__") a336 (.stmts b336) c336 3 [] .none .none .none (.str (.ofString "grammarmill.machine") 542) none (.ref (335:Nat)) .none 0)) #[]) :: (nat_lit 337, .mk (.type "tuple") none (.seq #[] 0) #[]) :: (nat_lit 339, .mk (.type "tuple") none (.seq #[.str (.ofString "self") 694] 0) #[]) :: (nat_lit 340, .mk (.type "tuple") none (.seq #[] 0) #[]) :: (nat_lit 342, .mk (.type "code") none (.fields #[.str (.ofString "count") 691, .str (.ofString "Frame.count") 692, .str (.ofString "/claim/cut.py") 693, .int 265 0, .int 1 0, .int 0 0, .int 0 0, .int 3 0, .ref (337:Nat), .bool true, .int 181 0, .ref (338:Nat), .none, .ref (339:Nat), .ref (340:Nat), .ref (341:Nat), .int 695 0, .int 265 0, .str (.ofString "/claim/cut.py") 696]) #[]) :: (nat_lit 343, .mk (.type "function") none (.func (.mk (.ofString "count") (.ofString "Frame.count") a343 (.stmts b343) c343 3 [] .none .none .none (.str (.ofString "grammarmill.machine") 542) none (.ref (342:Nat)) .none 0)) #[]) :: (nat_lit 344, .mk (.type "tuple") none (.seq #[] 0) #[]) :: (nat_lit 346, .mk (.type "tuple") none (.seq #[.str (.ofString "self") 701, .str (.ofString "value") 702] 0) #[]) :: (nat_lit 347, .mk (.type "tuple") none (.seq #[] 0) #[]) :: (nat_lit 349, .mk (.type "code") none (.fields #[.str (.ofString "push") 698, .str (.ofString "Frame.push") 699, .str (.ofString "/claim/cut.py") 700, .int 269 0, .int 2 0, .int 0 0, .int 0 0, .int 3 0, .ref (344:Nat), .bool true, .int 181 0, .ref (345:Nat), .none, .ref (346:Nat), .ref (347:Nat), .ref (348:Nat), .int 703 0, .int 269 0, .str (.ofString "/claim/cut.py") 704]) #[]) :: (nat_lit 350, .mk (.type "function") none (.func (.mk (.ofString "push") (.ofString "Frame.push") a350 (.stmts b350) c350 3 [] .none .none .none (.str (.ofString "grammarmill.machine") 542) none (.ref (349:Nat)) .none 0)) #[]) :: (nat_lit 351, .mk (.type "tuple") none (.seq #[] 0) #[]) :: (nat_lit 353, .mk (.type "tuple") none (.seq #[.str (.ofString "self") 709] 0) #[]) :: (nat_lit 354, .mk (.type "tuple") none (.seq #[] 0) #[]) :: (nat_lit 356, .mk (.type "code") none (.fields #[.str (.ofString "pop") 706, .str (.ofString "Frame.pop") 707, .str (.ofString "/claim/cut.py") 708, .int 272 0, .int 1 0, .int 0 0, .int 0 0, .int 3 0, .ref (351:Nat), .bool true, .int 181 0, .ref (352:Nat), .none, .ref (353:Nat), .ref (354:Nat), .ref (355:Nat), .int 710 0, .int 272 0, .str (.ofString "/claim/cut.py") 711]) #[]) :: (nat_lit 357, .mk (.type "function") none (.func (.mk (.ofString "pop") (.ofString "Frame.pop") a357 (.stmts b357) c343 3 [] .none .none .none (.str (.ofString "grammarmill.machine") 542) none (.ref (356:Nat)) .none 0)) #[]) :: (nat_lit 358, .mk (.type "tuple") none (.seq #[] 0) #[]) :: (nat_lit 360, .mk (.type "tuple") none (.seq #[.str (.ofString "self") 716, .str (.ofString "count") 717, .str (.ofString "found") 718] 0) #[]) :: (nat_lit 361, .mk (.type "tuple") none (.seq #[] 0) #[]) :: (nat_lit 363, .mk (.type "code") none (.fields #[.str (.ofString "pop_some") 713, .str (.ofString "Frame.pop_some") 714, .str (.ofString "/claim/cut.py") 715, .int 276 0, .int 2 0, .int 0 0, .int 0 0, .int 3 0, .ref (358:Nat), .bool true, .int 181 0, .ref (359:Nat), .none, .ref (360:Nat), .ref (361:Nat), .ref (362:Nat), .int 719 0, .int 276 0, .str (.ofString "/claim/cut.py") 720]) #[]) :: (nat_lit 364, .mk (.type "function") none (.func (.mk (.ofString "pop_some") (.ofString "Frame.pop_some") a364 (.stmts b364) c364 3 [] .none .none .none (.str (.ofString "grammarmill.machine") 542) none (.ref (363:Nat)) .none 0)) #[]) :: (nat_lit 365, .mk (.type "tuple") none (.seq #[] 0) #[]) :: (nat_lit 367, .mk (.type "tuple") none (.seq #[.str (.ofString "self") 725, .str (.ofString "word") 726] 0) #[]) :: (nat_lit 368, .mk (.type "tuple") none (.seq #[] 0) #[]) :: (nat_lit 370, .mk (.type "code") none (.fields #[.str (.ofString "tell") 722, .str (.ofString "Frame.tell") 723, .str (.ofString "/claim/cut.py") 724, .int 282 0, .int 2 0, .int 0 0, .int 0 0, .int 3 0, .ref (365:Nat), .bool true, .int 181 0, .ref (366:Nat), .none, .ref (367:Nat), .ref (368:Nat), .ref (369:Nat), .int 727 0, .int 282 0, .str (.ofString "/claim/cut.py") 728]) #[]) :: (nat_lit 371, .mk (.type "function") none (.func (.mk (.ofString "tell") (.ofString "Frame.tell") a371 (.stmts b371) c371 3 [] .none .none .none (.str (.ofString "grammarmill.machine") 542) none (.ref (370:Nat)) .none 0)) #[]) :: (nat_lit 372, .mk (.type "tuple") none (.seq #[.str (.ofString "control") 730, .str (.ofString "is_left") 731, .str (.ofString "most") 732, .str (.ofString "names") 733, .str (.ofString "own") 734, .str (.ofString "stack") 735, .str (.ofString "steps") 736, .str (.ofString "values") 737] 0) #[]) :: (nat_lit 373, .mk (.type "dict") none (.dict #[.mk (PyData.keyHash P (.ofString "__module__")) (.str (.ofString "__module__") 674) (.str (.ofString "grammarmill.machine") 542), .mk (PyData.keyHash P (.ofString "__firstlineno__")) (.str (.ofString "__firstlineno__") 678) (.int 253 677), .mk (PyData.keyHash P (.ofString "__init__")) (.str (.ofString "__init__") 690) (.ref (336:Nat)), .mk (PyData.keyHash P (.ofString "count")) (.str (.ofString "count") 697) (.ref (343:Nat)), .mk (PyData.keyHash P (.ofString "push")) (.str (.ofString "push") 705) (.ref (350:Nat)), .mk (PyData.keyHash P (.ofString "pop")) (.str (.ofString "pop") 712) (.ref (357:Nat)), .mk (PyData.keyHash P (.ofString "pop_some")) (.str (.ofString "pop_some") 721) (.ref (364:Nat)), .mk (PyData.keyHash P (.ofString "tell")) (.str (.ofString "tell") 729) (.ref (371:Nat)), .mk (PyData.keyHash P (.ofString "__static_attributes__")) (.str (.ofString "__static_attributes__") 738) (.ref (372:Nat)), .mk (PyData.keyHash P (.ofString "__dict__")) (.str (.ofString "__dict__") 740) (.ref (375:Nat)), .mk (PyData.keyHash P (.ofString "__weakref__")) (.str (.ofString "__weakref__") 742) (.ref (376:Nat)), .mk (PyData.keyHash P (.ofString "__doc__")) (.str (.ofString "__doc__") 743) .none] 4) #[]) :: (nat_lit 374, .mk (.type "type") none (.cls (.mk (.ofString "Frame") [.type "object"] [.ref (374:Nat), .type "object"] 373 (.ofString "Frame") true [] [] false none false)) #[none, none, some (.str (.ofString "Frame") 667), some (.str (.ofString "Frame") 675), some (.builtin "object.__new__"), some (.bool true)]) :: (nat_lit 375, .mk (.type "getset_descriptor") none (.fields #[.str (.ofString "__dict__") 739, .ref (374:Nat), .builtin "function.__dict__", .builtin "function.__dict__#set"]) #[]) :: (nat_lit 376, .mk (.type "getset_descriptor") none (.fields #[.str (.ofString "__weakref__") 741, .ref (374:Nat), .builtin "ExceptionGroup.__weakref__", .none]) #[]) :: (nat_lit 386, .mk (.type "tuple") none (.seq #[.int 2000 758] 0) #[]) :: (nat_lit 387, .mk (.type "tuple") none (.seq #[] 0) #[]) :: (nat_lit 389, .mk (.type "tuple") none (.seq #[.str (.ofString "self") 762, .str (.ofString "most") 763] 0) #[]) :: (nat_lit 390, .mk (.type "tuple") none (.seq #[] 0) #[]) :: (nat_lit 392, .mk (.type "code") none (.fields #[.str (.ofString "__init__") 759, .str (.ofString "Machine.__init__") 760, .str (.ofString "/claim/cut.py") 761, .int 288 0, .int 2 0, .int 0 0, .int 0 0, .int 3 0, .ref (387:Nat), .bool true, .int 181 0, .ref (388:Nat), .none, .ref (389:Nat), .ref (390:Nat), .ref (391:Nat), .int 764 0, .int 288 0, .str (.ofString "/claim/cut.py") 765]) #[]) :: (nat_lit 393, .mk (.type "function") none (.func (.mk (.ofString "__init__") (.ofString "Machine.__init__") a393 (.stmts b393) c393 3 [] (.ref (386:Nat)) .none .none (.str (.ofString "grammarmill.machine") 542) none (.ref (392:Nat)) .none 0)) #[]) :: (nat_lit 394, .mk (.type "tuple") none (.seq #[] 0) #[]) :: (nat_lit 396, .mk (.type "tuple") none (.seq #[.str (.ofString "self") 770, .str (.ofString "code") 771, .str (.ofString "values") 772, .str (.ofString "names") 773, .str (.ofString "control") 774, .str (.ofString "own") 775, .str (.ofString "frame") 776, .str (.ofString "at") 777, .str (.ofString "op") 778, .str (.ofString "worth") 779] 0) #[]) :: (nat_lit 397, .mk (.type "tuple") none (.seq #[] 0) #[]) :: (nat_lit 399, .mk (.type "code") none (.fields #[.str (.ofString "run") 767, .str (.ofString "Machine.run") 768, .str (.ofString "/claim/cut.py") 769, .int 291 0, .int 6 0, .int 0 0, .int 0 0, .int 3 0, .ref (394:Nat), .bool true, .int 181 0, .ref (395:Nat), .none, .ref (396:Nat), .ref (397:Nat), .ref (398:Nat), .int 780 0, .int 291 0, .str (.ofString "/claim/cut.py") 781]) #[]) :: (nat_lit 400, .mk (.type "function") none (.func (.mk (.ofString "run") (.ofString "Machine.run") a400 (.stmts b400) c400 3 [] .none .none .none (.str (.ofString "grammarmill.machine") 542) none (.ref (399:Nat)) .none 0)) #[]) :: (nat_lit 401, .mk (.type "tuple") none (.seq #[] 0) #[]) :: (nat_lit 403, .mk (.type "tuple") none (.seq #[.str (.ofString "self") 786, .str (.ofString "frame") 787, .str (.ofString "op") 788, .str (.ofString "worth") 789, .str (.ofString "at") 790] 0) #[]) :: (nat_lit 404, .mk (.type "tuple") none (.seq #[] 0) #[]) :: (nat_lit 406, .mk (.type "code") none (.fields #[.str (.ofString "jumped") 783, .str (.ofString "Machine.jumped") 784, .str (.ofString "/claim/cut.py") 785, .int 300 0, .int 5 0, .int 0 0, .int 0 0, .int 3 0, .ref (401:Nat), .bool true, .int 181 0, .ref (402:Nat), .none, .ref (403:Nat), .ref (404:Nat), .ref (405:Nat), .int 791 0, .int 300 0, .str (.ofString "/claim/cut.py") 792]) #[]) :: (nat_lit 407, .mk (.type "function") none (.func (.mk (.ofString "jumped") (.ofString "Machine.jumped") a407 (.stmts b407) c407 3 [] .none .none .none (.str (.ofString "grammarmill.machine") 542) none (.ref (406:Nat)) .none 0)) #[]) :: (nat_lit 408, .mk (.type "tuple") none (.seq #[] 0) #[]) :: (nat_lit 410, .mk (.type "tuple") none (.seq #[.str (.ofString "self") 797, .str (.ofString "frame") 798, .str (.ofString "op") 799, .str (.ofString "worth") 800, .str (.ofString "right") 801] 0) #[]) :: (nat_lit 411, .mk (.type "tuple") none (.seq #[] 0) #[]) :: (nat_lit 413, .mk (.type "code") none (.fields #[.str (.ofString "step") 794, .str (.ofString "Machine.step") 795, .str (.ofString "/claim/cut.py") 796, .int 305 0, .int 4 0, .int 0 0, .int 0 0, .int 3 0, .ref (408:Nat), .bool true, .int 181 0, .ref (409:Nat), .none, .ref (410:Nat), .ref (411:Nat), .ref (412:Nat), .int 802 0, .int 305 0, .str (.ofString "/claim/cut.py") 803]) #[]) :: (nat_lit 414, .mk (.type "function") none (.func (.mk (.ofString "step") (.ofString "Machine.step") a414 (.stmts b414) c414 3 [] .none .none .none (.str (.ofString "grammarmill.machine") 542) none (.ref (413:Nat)) .none 0)) #[]) :: (nat_lit 415, .mk (.type "tuple") none (.seq #[] 0) #[]) :: (nat_lit 417, .mk (.type "tuple") none (.seq #[.str (.ofString "self") 808, .str (.ofString "frame") 809, .str (.ofString "op") 810, .str (.ofString "worth") 811] 0) #[]) :: (nat_lit 418, .mk (.type "tuple") none (.seq #[] 0) #[]) :: (nat_lit 420, .mk (.type "code") none (.fields #[.str (.ofString "store") 805, .str (.ofString "Machine.store") 806, .str (.ofString "/claim/cut.py") 807, .int 328 0, .int 4 0, .int 0 0, .int 0 0, .int 3 0, .ref (415:Nat), .bool true, .int 181 0, .ref (416:Nat), .none, .ref (417:Nat), .ref (418:Nat), .ref (419:Nat), .int 812 0, .int 328 0, .str (.ofString "/claim/cut.py") 813]) #[]) :: (nat_lit 421, .mk (.type "function") none (.func (.mk (.ofString "store") (.ofString "Machine.store") a421 (.stmts b421) c421 3 [] .none .none .none (.str (.ofString "grammarmill.machine") 542) none (.ref (420:Nat)) .none 0)) #[]) :: (nat_lit 422, .mk (.type "tuple") none (.seq #[] 0) #[]) :: (nat_lit 424, .mk (.type "tuple") none (.seq #[.str (.ofString "self") 818, .str (.ofString "nodes") 819, .str (.ofString "values") 820, .str (.ofString "names") 821, .str (.ofString "control") 822, .str (.ofString "own") 823] 0) #[]) :: (nat_lit 425, .mk (.type "tuple") none (.seq #[] 0) #[]) :: (nat_lit 427, .mk (.type "code") none (.fields #[.str (.ofString "evaluate") 815, .str (.ofString "Machine.evaluate") 816, .str (.ofString "/claim/cut.py") 817, .int 340 0, .int 6 0, .int 0 0, .int 0 0, .int 3 0, .ref (422:Nat), .bool true, .int 181 0, .ref (423:Nat), .none, .ref (424:Nat), .ref (425:Nat), .ref (426:Nat), .int 824 0, .int 340 0, .str (.ofString "/claim/cut.py") 825]) #[]) :: (nat_lit 428, .mk (.type "function") none (.func (.mk (.ofString "evaluate") (.ofString "Machine.evaluate") a428 (.stmts b428) c428 3 [] .none .none .none (.str (.ofString "grammarmill.machine") 542) none (.ref (427:Nat)) .none 0)) #[]) :: (nat_lit 429, .mk (.type "tuple") none (.seq #[] 0) #[]) :: (nat_lit 431, .mk (.type "tuple") none (.seq #[.str (.ofString "self") 830, .str (.ofString "frame") 831, .str (.ofString "nodes") 832] 0) #[]) :: (nat_lit 432, .mk (.type "tuple") none (.seq #[] 0) #[]) :: (nat_lit 434, .mk (.type "code") none (.fields #[.str (.ofString "statements") 827, .str (.ofString "Machine.statements") 828, .str (.ofString "/claim/cut.py") 829, .int 343 0, .int 3 0, .int 0 0, .int 0 0, .int 3 0, .ref (429:Nat), .bool true, .int 181 0, .ref (430:Nat), .none, .ref (431:Nat), .ref (432:Nat), .ref (433:Nat), .int 833 0, .int 343 0, .str (.ofString "/claim/cut.py") 834]) #[]) :: (nat_lit 435, .mk (.type "function") none (.func (.mk (.ofString "statements") (.ofString "Machine.statements") a435 (.stmts b435) c435 3 [] .none .none .none (.str (.ofString "grammarmill.machine") 542) none (.ref (434:Nat)) .none 0)) #[]) :: (nat_lit 436, .mk (.type "tuple") none (.seq #[] 0) #[]) :: (nat_lit 438, .mk (.type "tuple") none (.seq #[.str (.ofString "self") 839, .str (.ofString "frame") 840, .str (.ofString "node") 841] 0) #[]) :: (nat_lit 439, .mk (.type "tuple") none (.seq #[] 0) #[]) :: (nat_lit 441, .mk (.type "code") none (.fields #[.str (.ofString "statement") 836, .str (.ofString "Machine.statement") 837, .str (.ofString "/claim/cut.py") 838, .int 346 0, .int 3 0, .int 0 0, .int 0 0, .int 3 0, .ref (436:Nat), .bool true, .int 181 0, .ref (437:Nat), .none, .ref (438:Nat), .ref (439:Nat), .ref (440:Nat), .int 842 0, .int 346 0, .str (.ofString "/claim/cut.py") 843]) #[]) :: (nat_lit 442, .mk (.type "function") none (.func (.mk (.ofString "statement") (.ofString "Machine.statement") a442 (.stmts b442) c442 3 [] .none .none .none (.str (.ofString "grammarmill.machine") 542) none (.ref (441:Nat)) .none 0)) #[]) :: (nat_lit 443, .mk (.type "tuple") none (.seq #[] 0) #[]) :: (nat_lit 446, .mk (.type "code") none (.fields #[.str (.ofString "value") 845, .str (.ofString "Machine.value") 846, .str (.ofString "/claim/cut.py") 847, .int 349 0, .int 3 0, .int 0 0, .int 0 0, .int 3 0, .ref (443:Nat), .bool true, .int 181 0, .ref (444:Nat), .none, .none, .none, .ref (445:Nat), .int 848 0, .int 349 0, .str (.ofString "/claim/cut.py") 849]) #[]) :: (nat_lit 447, .mk (.type "function") none (.func (.mk (.ofString "value") (.ofString "Machine.value") a447 (.stmts b447) c447 3 [] .none .none .none (.str (.ofString "grammarmill.machine") 542) none (.ref (446:Nat)) .none 0)) #[]) :: (nat_lit 448, .mk (.type "tuple") none (.seq #[.str (.ofString "most") 851] 0) #[]) :: (nat_lit 449, .mk (.type "dict") none (.dict #[.mk (PyData.keyHash P (.ofString "__module__")) (.str (.ofString "__module__") 753) (.str (.ofString "grammarmill.machine") 542), .mk (PyData.keyHash P (.ofString "__firstlineno__")) (.str (.ofString "__firstlineno__") 757) (.int 286 756), .mk (PyData.keyHash P (.ofString "__init__")) (.str (.ofString "__init__") 766) (.ref (393:Nat)), .mk (PyData.keyHash P (.ofString "run")) (.str (.ofString "run") 782) (.ref (400:Nat)), .mk (PyData.keyHash P (.ofString "jumped")) (.str (.ofString "jumped") 793) (.ref (407:Nat)), .mk (PyData.keyHash P (.ofString "step")) (.str (.ofString "step") 804) (.ref (414:Nat)), .mk (PyData.keyHash P (.ofString "store")) (.str (.ofString "store") 814) (.ref (421:Nat)), .mk (PyData.keyHash P (.ofString "evaluate")) (.str (.ofString "evaluate") 826) (.ref (428:Nat)), .mk (PyData.keyHash P (.ofString "statements")) (.str (.ofString "statements") 835) (.ref (435:Nat)), .mk (PyData.keyHash P (.ofString "statement")) (.str (.ofString "statement") 844) (.ref (442:Nat)), .mk (PyData.keyHash P (.ofString "value")) (.str (.ofString "value") 850) (.ref (447:Nat)), .mk (PyData.keyHash P (.ofString "__static_attributes__")) (.str (.ofString "__static_attributes__") 852) (.ref (448:Nat)), .mk (PyData.keyHash P (.ofString "__dict__")) (.str (.ofString "__dict__") 854) (.ref (451:Nat)), .mk (PyData.keyHash P (.ofString "__weakref__")) (.str (.ofString "__weakref__") 856) (.ref (452:Nat)), .mk (PyData.keyHash P (.ofString "__doc__")) (.str (.ofString "__doc__") 857) .none] 4) #[]) :: (nat_lit 450, .mk (.type "type") none (.cls (.mk (.ofString "Machine") [.type "object"] [.ref (450:Nat), .type "object"] 449 (.ofString "Machine") true [] [] false none false)) #[none, none, some (.str (.ofString "Machine") 746), some (.str (.ofString "Machine") 754), some (.builtin "object.__new__"), some (.bool true)]) :: (nat_lit 451, .mk (.type "getset_descriptor") none (.fields #[.str (.ofString "__dict__") 853, .ref (450:Nat), .builtin "function.__dict__", .builtin "function.__dict__#set"]) #[]) :: (nat_lit 452, .mk (.type "getset_descriptor") none (.fields #[.str (.ofString "__weakref__") 855, .ref (450:Nat), .builtin "ExceptionGroup.__weakref__", .none]) #[]) :: (nat_lit 455, .mk (.type "tuple") none (.seq #[.ref (213:Nat)] 0) #[]) :: (nat_lit 462, .mk (.type "tuple") none (.seq #[.int 2000 872] 0) #[]) :: (nat_lit 463, .mk (.type "tuple") none (.seq #[] 0) #[]) :: (nat_lit 465, .mk (.type "tuple") none (.seq #[.str (.ofString "self") 876, .str (.ofString "codes") 877, .str (.ofString "most") 878] 0) #[]) :: (nat_lit 466, .mk (.type "tuple") none (.seq #[] 0) #[]) :: (nat_lit 468, .mk (.type "code") none (.fields #[.str (.ofString "__init__") 873, .str (.ofString "CodeHandler.__init__") 874, .str (.ofString "/claim/cut.py") 875, .int 375 0, .int 3 0, .int 0 0, .int 0 0, .int 3 0, .ref (463:Nat), .bool true, .int 181 0, .ref (464:Nat), .none, .ref (465:Nat), .ref (466:Nat), .ref (467:Nat), .int 879 0, .int 375 0, .str (.ofString "/claim/cut.py") 880]) #[]) :: (nat_lit 469, .mk (.type "function") none (.func (.mk (.ofString "__init__") (.ofString "CodeHandler.__init__") a469 (.stmts b469) c469 3 [] (.ref (462:Nat)) .none .none (.str (.ofString "grammarmill.machine") 542) none (.ref (468:Nat)) .none 0)) #[]) :: (nat_lit 470, .mk (.type "tuple") none (.seq #[] 0) #[]) :: (nat_lit 472, .mk (.type "tuple") none (.seq #[.str (.ofString "self") 885, .str (.ofString "rule") 886, .str (.ofString "values") 887, .str (.ofString "control") 888] 0) #[]) :: (nat_lit 473, .mk (.type "tuple") none (.seq #[] 0) #[]) :: (nat_lit 475, .mk (.type "code") none (.fields #[.str (.ofString "reduce") 882, .str (.ofString "CodeHandler.reduce") 883, .str (.ofString "/claim/cut.py") 884, .int 380 0, .int 4 0, .int 0 0, .int 0 0, .int 3 0, .ref (470:Nat), .bool true, .int 181 0, .ref (471:Nat), .none, .ref (472:Nat), .ref (473:Nat), .ref (474:Nat), .int 889 0, .int 380 0, .str (.ofString "/claim/cut.py") 890]) #[]) :: (nat_lit 476, .mk (.type "function") none (.func (.mk (.ofString "reduce") (.ofString "CodeHandler.reduce") a476 (.stmts b476) c203 3 [] .none .none .none (.str (.ofString "grammarmill.machine") 542) none (.ref (475:Nat)) .none 0)) #[]) :: (nat_lit 477, .mk (.type "tuple") none (.seq #[.str (.ofString "codes") 892, .str (.ofString "machine") 893, .str (.ofString "names") 894] 0) #[]) :: (nat_lit 478, .mk (.type "dict") none (.dict #[.mk (PyData.keyHash P (.ofString "__module__")) (.str (.ofString "__module__") 867) (.str (.ofString "grammarmill.machine") 542), .mk (PyData.keyHash P (.ofString "__firstlineno__")) (.str (.ofString "__firstlineno__") 871) (.int 373 870), .mk (PyData.keyHash P (.ofString "__init__")) (.str (.ofString "__init__") 881) (.ref (469:Nat)), .mk (PyData.keyHash P (.ofString "reduce")) (.str (.ofString "reduce") 891) (.ref (476:Nat)), .mk (PyData.keyHash P (.ofString "__static_attributes__")) (.str (.ofString "__static_attributes__") 895) (.ref (477:Nat)), .mk (PyData.keyHash P (.ofString "__doc__")) (.str (.ofString "__doc__") 896) .none] 2) #[]) :: (nat_lit 479, .mk (.type "type") none (.cls (.mk (.ofString "CodeHandler") [.ref (213:Nat)] [.ref (479:Nat), .ref (213:Nat), .type "object"] 478 (.ofString "CodeHandler") true [] [] false none false)) #[some (.ref (455:Nat)), none, some (.str (.ofString "CodeHandler") 860), some (.str (.ofString "CodeHandler") 868), some (.builtin "object.__new__"), some (.bool true)]) :: (nat_lit 482, .mk (.type "tuple") none (.seq #[] 0) #[]) :: (nat_lit 484, .mk (.type "tuple") none (.seq #[.str (.ofString "codes") 902, .str (.ofString "code") 903] 0) #[]) :: (nat_lit 485, .mk (.type "tuple") none (.seq #[] 0) #[]) :: (nat_lit 487, .mk (.type "code") none (.fields #[.str (.ofString "handler_from_codes") 899, .str (.ofString "handler_from_codes") 900, .str (.ofString "/claim/cut.py") 901, .int 382 0, .int 1 0, .int 0 0, .int 0 0, .int 3 0, .ref (482:Nat), .bool true, .int 181 0, .ref (483:Nat), .none, .ref (484:Nat), .ref (485:Nat), .ref (486:Nat), .int 904 0, .int 382 0, .str (.ofString "/claim/cut.py") 905]) #[]) :: (nat_lit 488, .mk (.type "function") none (.func (.mk (.ofString "handler_from_codes") (.ofString "handler_from_codes") a488 (.stmts b488) c488 3 [] .none .none .none (.str (.ofString "grammarmill.machine") 542) none (.ref (487:Nat)) .none 0)) #[]) :: (nat_lit 489, .mk (.type "tuple") none (.seq #[] 0) #[]) :: (nat_lit 491, .mk (.type "tuple") none (.seq #[] 0) #[]) :: (nat_lit 492, .mk (.type "tuple") none (.seq #[] 0) #[]) :: (nat_lit 494, .mk (.type "code") none (.fields #[.str (.ofString "_law_BOUND") 909, .str (.ofString "_law_BOUND") 910, .str (.ofString "/claim/cut.py") 911, .int 388 0, .int 0 0, .int 0 0, .int 0 0, .int 3 0, .ref (489:Nat), .bool true, .int 181 0, .ref (490:Nat), .none, .ref (491:Nat), .ref (492:Nat), .ref (493:Nat), .int 912 0, .int 388 0, .str (.ofString "/claim/cut.py") 913]) #[]) :: (nat_lit 495, .mk (.type "function") none (.func (.mk (.ofString "_law_BOUND") (.ofString "_law_BOUND") a495 (.stmts b495) c495 3 [] .none .none .none (.str (.ofString "law_qd0067_01") 907) none (.ref (494:Nat)) .none 0)) #[]) :: (nat_lit 496, .mk (.type "tuple") none (.seq #[] 0) #[]) :: (nat_lit 498, .mk (.type "tuple") none (.seq #[.str (.ofString "script") 918, .str (.ofString "number") 919, .str (.ofString "cell") 920] 0) #[]) :: (nat_lit 499, .mk (.type "tuple") none (.seq #[] 0) #[]) :: (nat_lit 501, .mk (.type "code") none (.fields #[.str (.ofString "_law_pen") 915, .str (.ofString "_law_pen") 916, .str (.ofString "/claim/cut.py") 917, .int 390 0, .int 1 0, .int 0 0, .int 0 0, .int 3 0, .ref (496:Nat), .bool true, .int 181 0, .ref (497:Nat), .none, .ref (498:Nat), .ref (499:Nat), .ref (500:Nat), .int 921 0, .int 390 0, .str (.ofString "/claim/cut.py") 922]) #[]) :: (nat_lit 502, .mk (.type "function") none (.func (.mk (.ofString "_law_pen") (.ofString "_law_pen") a502 (.stmts b502) c502 3 [] .none .none .none (.str (.ofString "law_qd0067_01") 907) none (.ref (501:Nat)) .none 0)) #[]) :: (nat_lit 503, .mk (.type "tuple") none (.seq #[] 0) #[]) :: (nat_lit 505, .mk (.type "tuple") none (.seq #[.str (.ofString "pen") 927, .str (.ofString "many") 928, .str (.ofString "digit") 929] 0) #[]) :: (nat_lit 506, .mk (.type "tuple") none (.seq #[] 0) #[]) :: (nat_lit 508, .mk (.type "code") none (.fields #[.str (.ofString "_law_draw") 924, .str (.ofString "_law_draw") 925, .str (.ofString "/claim/cut.py") 926, .int 395 0, .int 2 0, .int 0 0, .int 0 0, .int 3 0, .ref (503:Nat), .bool true, .int 181 0, .ref (504:Nat), .none, .ref (505:Nat), .ref (506:Nat), .ref (507:Nat), .int 930 0, .int 395 0, .str (.ofString "/claim/cut.py") 931]) #[]) :: (nat_lit 509, .mk (.type "function") none (.func (.mk (.ofString "_law_draw") (.ofString "_law_draw") a509 (.stmts b509) c509 3 [] .none .none .none (.str (.ofString "law_qd0067_01") 907) none (.ref (508:Nat)) .none 0)) #[]) :: (nat_lit 510, .mk (.type "tuple") none (.seq #[] 0) #[]) :: (nat_lit 512, .mk (.type "tuple") none (.seq #[.str (.ofString "call") 936] 0) #[]) :: (nat_lit 513, .mk (.type "tuple") none (.seq #[] 0) #[]) :: (nat_lit 515, .mk (.type "code") none (.fields #[.str (.ofString "_law_is_let") 933, .str (.ofString "_law_is_let") 934, .str (.ofString "/claim/cut.py") 935, .int 402 0, .int 1 0, .int 0 0, .int 0 0, .int 3 0, .ref (510:Nat), .bool true, .int 181 0, .ref (511:Nat), .none, .ref (512:Nat), .ref (513:Nat), .ref (514:Nat), .int 937 0, .int 402 0, .str (.ofString "/claim/cut.py") 938]) #[]) :: (nat_lit 516, .mk (.type "function") none (.func (.mk (.ofString "_law_is_let") (.ofString "_law_is_let") a516 (.stmts b516) c516 3 [] .none .none .none (.str (.ofString "law_qd0067_01") 907) none (.ref (515:Nat)) .none 0)) #[]) :: (nat_lit 517, .mk (.type "tuple") none (.seq #[] 0) #[]) :: (nat_lit 519, .mk (.type "tuple") none (.seq #[.str (.ofString "code") 943, .str (.ofString "values") 944] 0) #[]) :: (nat_lit 520, .mk (.type "tuple") none (.seq #[] 0) #[]) :: (nat_lit 522, .mk (.type "code") none (.fields #[.str (.ofString "_law_heard") 940, .str (.ofString "_law_heard") 941, .str (.ofString "/claim/cut.py") 942, .int 408 0, .int 2 0, .int 0 0, .int 0 0, .int 3 0, .ref (517:Nat), .bool true, .int 181 0, .ref (518:Nat), .none, .ref (519:Nat), .ref (520:Nat), .ref (521:Nat), .int 945 0, .int 408 0, .str (.ofString "/claim/cut.py") 946]) #[]) :: (nat_lit 523, .mk (.type "function") none (.func (.mk (.ofString "_law_heard") (.ofString "_law_heard") a523 (.stmts b523) c523 3 [] .none .none .none (.str (.ofString "law_qd0067_01") 907) none (.ref (522:Nat)) .none 0)) #[]) :: (nat_lit 524, .mk (.type "tuple") none (.seq #[] 0) #[]) :: (nat_lit 527, .mk (.type "code") none (.fields #[.str (.ofString "_law_right") 948, .str (.ofString "_law_right") 949, .str (.ofString "/claim/cut.py") 950, .int 413 0, .int 3 0, .int 0 0, .int 0 0, .int 3 0, .ref (524:Nat), .bool true, .int 181 0, .ref (525:Nat), .none, .none, .none, .ref (526:Nat), .int 951 0, .int 413 0, .str (.ofString "/claim/cut.py") 952]) #[]) :: (nat_lit 528, .mk (.type "function") none (.func (.mk (.ofString "_law_right") (.ofString "_law_right") a528 (.stmts b528) c528 3 [] .none .none .none (.str (.ofString "law_qd0067_01") 907) none (.ref (527:Nat)) .none 0)) #[]) :: (nat_lit 529, .mk (.type "tuple") none (.seq #[] 0) #[]) :: (nat_lit 531, .mk (.type "tuple") none (.seq #[.str (.ofString "script") 957, .str (.ofString "pen") 958, .str (.ofString "written") 959, .str (.ofString "op") 960, .str (.ofString "worth") 961, .str (.ofString "turn") 962, .str (.ofString "way") 963, .str (.ofString "far") 964] 0) #[]) :: (nat_lit 532, .mk (.type "tuple") none (.seq #[] 0) #[]) :: (nat_lit 534, .mk (.type "code") none (.fields #[.str (.ofString "law") 954, .str (.ofString "law") 955, .str (.ofString "/claim/cut.py") 956, .int 433 0, .int 1 0, .int 0 0, .int 0 0, .int 3 0, .ref (529:Nat), .bool true, .int 181 0, .ref (530:Nat), .none, .ref (531:Nat), .ref (532:Nat), .ref (533:Nat), .int 965 0, .int 433 0, .str (.ofString "/claim/cut.py") 966]) #[]) :: (nat_lit 535, .mk (.type "function") none (.func (.mk (.ofString "law") (.ofString "law") a535 (.stmts b535) c535 3 [] .none .none .none (.str (.ofString "law_qd0067_01") 907) none (.ref (534:Nat)) .none 0)) #[]) :: [])
noncomputable def kfind : List (Addr × Obj) → Nat → Obj
  | [], _ => default
  | (a, o) :: r, b => match Nat.beq a b with
    | true => o
    | false => kfind r b
noncomputable def kg (P : Params) (a : Nat) : Obj := kfind (hd.heap_39 P) a
noncomputable def dfd : FuncData := .mk (.ofString "") (.ofString "") (.mk [] [] none [] [] none []) (.stmts []) (.mk .function [] false false []) 0 [] .none .none .none .none none .none .none 0
noncomputable def fd (P : Params) (a : Nat) : FuncData := match (kg P a).data with
  | .func f => f
  | _ => dfd
noncomputable abbrev kh (P : Params) (x : Str) := PyData.keyHash P x
abbrev tn (o : Obj) (l r : BT) : BT := .node o l r
abbrev tl (o : Obj) : BT := .node o .nil .nil
noncomputable abbrev lf : Life := .mk [] [] [] 0 [] [] false #[] [] 0 false false false 0 [2000, 10, 10] false 0 true [] [] 0 false
noncomputable def o_44 (P : Params) : Obj := .mk .none none (.fields #[]) #[]
noncomputable def o_45 (P : Params) : Obj := .mk (.type "code") none (.fields #[.str (.ofString "<module>") 182, .str (.ofString "<module>") 183, .str (.ofString "/claim/cut.py") 184, .int 1 0, .int 0 0, .int 0 0, .int 0 0, .int 0 0, .ref (11:Nat), .bool false, .int 181 0, .ref (12:Nat), .none, .none, .none, .none, .int 185 0, .int 1 0, .str (.ofString "/claim/cut.py") 186]) #[]
noncomputable def o_46 (P : Params) : Obj := .mk (.type "frame") none .plain #[some (.ref (13:Nat)), some (.ref (3:Nat)), some (.ref (3:Nat)), none, some (.str (.ofString "__main__") 164), none, some (.ref (0:Nat))]
noncomputable def o_49 (P : Params) : Obj := .mk (.type "dict") none (.dict #[.mk (kh P (.ofString "__name__")) (.str (.ofString "__name__") 165) (.str (.ofString "__main__") 164), .mk (kh P (.ofString "__doc__")) (.str (.ofString "__doc__") 166) .none, .mk (kh P (.ofString "__package__")) (.str (.ofString "__package__") 167) .none, .mk (kh P (.ofString "__loader__")) (.str (.ofString "__loader__") 168) (.builtin "__main__.__loader__#opaque"), .mk (kh P (.ofString "__spec__")) (.str (.ofString "__spec__") 169) .none, .mk (kh P (.ofString "__annotations__")) (.str (.ofString "__annotations__") 170) (.ref (6:Nat)), .mk (kh P (.ofString "__builtins__")) (.str (.ofString "__builtins__") 171) (.ref (4:Nat)), .mk (kh P (.ofString "__file__")) (.str (.ofString "__file__") 173) (.str (.ofString "/claim/cut.py") 172), .mk (kh P (.ofString "__cached__")) (.str (.ofString "__cached__") 174) .none, .mk (kh P (.ofString "_wall")) (.str (.ofString "_wall") 193) (.ref (21:Nat)), .mk (kh P (.ofString "WORDS")) (.str (.ofString "WORDS") 199) (.ref (22:Nat)), .mk (kh P (.ofString "LEVELS")) (.str (.ofString "LEVELS") 239) (.ref (23:Nat))] 12) #[]
noncomputable def o_50 (P : Params) : Obj := .mk .none none (.fields #[.int 1 0, .int 0 0, .ref (20:Nat)]) #[]
noncomputable def o_52 (P : Params) : Obj := .mk .none none (.fields #[]) #[]
noncomputable def o_55 (P : Params) : Obj := .mk .none none (.func (.mk (.ofString "_wall") (.ofString "_wall") (fd P 21).params (fd P 21).body (fd P 21).scope 0 [] .none .none .none .none none .none .none 0)) #[]
noncomputable def o_62 (P : Params) : Obj := .mk (.type "dict") none (.dict #[.mk (kh P (.ofString "__name__")) (.str (.ofString "__name__") 165) (.str (.ofString "grammarmill.source") 278), .mk (kh P (.ofString "__doc__")) (.str (.ofString "__doc__") 166) .none, .mk (kh P (.ofString "__package__")) (.str (.ofString "__package__") 167) .none, .mk (kh P (.ofString "__loader__")) (.str (.ofString "__loader__") 168) (.builtin "__main__.__loader__#opaque"), .mk (kh P (.ofString "__spec__")) (.str (.ofString "__spec__") 169) .none, .mk (kh P (.ofString "__annotations__")) (.str (.ofString "__annotations__") 170) (.ref (6:Nat)), .mk (kh P (.ofString "__builtins__")) (.str (.ofString "__builtins__") 171) (.ref (4:Nat)), .mk (kh P (.ofString "__file__")) (.str (.ofString "__file__") 173) (.str (.ofString "/claim/cut.py") 172), .mk (kh P (.ofString "__cached__")) (.str (.ofString "__cached__") 174) .none, .mk (kh P (.ofString "_wall")) (.str (.ofString "_wall") 193) (.ref (21:Nat)), .mk (kh P (.ofString "WORDS")) (.str (.ofString "WORDS") 199) (.ref (22:Nat)), .mk (kh P (.ofString "LEVELS")) (.str (.ofString "LEVELS") 239) (.ref (23:Nat)), .mk (kh P (.ofString "FUNCTIONS")) (.str (.ofString "FUNCTIONS") 273) (.ref (24:Nat)), .mk (kh P (.ofString "MOST_BITS")) (.str (.ofString "MOST_BITS") 275) (.int 512 274), .mk (kh P (.ofString "MOST_SIZE")) (.str (.ofString "MOST_SIZE") 277) (.int 2000 276)] 15) #[]
noncomputable def o_67 (P : Params) : Obj := .mk (.type "dict") none (.dict #[.mk (kh P (.ofString "__name__")) (.str (.ofString "__name__") 165) (.str (.ofString "grammarmill.source") 278), .mk (kh P (.ofString "__doc__")) (.str (.ofString "__doc__") 166) .none, .mk (kh P (.ofString "__package__")) (.str (.ofString "__package__") 167) .none, .mk (kh P (.ofString "__loader__")) (.str (.ofString "__loader__") 168) (.builtin "__main__.__loader__#opaque"), .mk (kh P (.ofString "__spec__")) (.str (.ofString "__spec__") 169) .none, .mk (kh P (.ofString "__annotations__")) (.str (.ofString "__annotations__") 170) (.ref (6:Nat)), .mk (kh P (.ofString "__builtins__")) (.str (.ofString "__builtins__") 171) (.ref (4:Nat)), .mk (kh P (.ofString "__file__")) (.str (.ofString "__file__") 173) (.str (.ofString "/claim/cut.py") 172), .mk (kh P (.ofString "__cached__")) (.str (.ofString "__cached__") 174) .none, .mk (kh P (.ofString "_wall")) (.str (.ofString "_wall") 193) (.ref (21:Nat)), .mk (kh P (.ofString "WORDS")) (.str (.ofString "WORDS") 199) (.ref (22:Nat)), .mk (kh P (.ofString "LEVELS")) (.str (.ofString "LEVELS") 239) (.ref (23:Nat)), .mk (kh P (.ofString "FUNCTIONS")) (.str (.ofString "FUNCTIONS") 273) (.ref (24:Nat)), .mk (kh P (.ofString "MOST_BITS")) (.str (.ofString "MOST_BITS") 275) (.int 512 274), .mk (kh P (.ofString "MOST_SIZE")) (.str (.ofString "MOST_SIZE") 277) (.int 2000 276), .mk (kh P (.ofString "ToolError")) (.str (.ofString "ToolError") 317) (.ref (49:Nat))] 16) #[]
noncomputable def o_68 (P : Params) : Obj := .mk .none none (.fields #[.int 1 0, .int 0 0, .ref (20:Nat), .int 10 0, .int 0 0, .ref (30:Nat)]) #[]
noncomputable def o_70 (P : Params) : Obj := .mk (.type "builtin_function_or_method") none (.fields #[.builtin "type.__prepare__", .type "type"]) #[]
noncomputable def o_71 (P : Params) : Obj := .mk (.type "dict") none (.dict #[.mk (kh P (.ofString "__module__")) (.str (.ofString "__module__") 287) (.str (.ofString "grammarmill.source") 278), .mk (kh P (.ofString "__qualname__")) (.str (.ofString "__qualname__") 289) (.str (.ofString "ToolError") 288), .mk (kh P (.ofString "__firstlineno__")) (.str (.ofString "__firstlineno__") 291) (.int 10 290), .mk (kh P (.ofString "__init__")) (.str (.ofString "__init__") 300) (.ref (39:Nat)), .mk (kh P (.ofString "told")) (.str (.ofString "told") 307) (.ref (46:Nat)), .mk (kh P (.ofString "__static_attributes__")) (.str (.ofString "__static_attributes__") 310) (.ref (47:Nat))] 6) #[]
noncomputable def o_73 (P : Params) : Obj := .mk .none none (.fields #[.int 12 0, .int 4 0, .ref (38:Nat), .int 17 0, .int 4 0, .ref (45:Nat)]) #[]
noncomputable def o_74 (P : Params) : Obj := .mk (.type "code") none (.fields #[.str (.ofString "ToolError") 282, .str (.ofString "ToolError") 283, .str (.ofString "/claim/cut.py") 284, .int 10 0, .int 0 0, .int 0 0, .int 0 0, .int 0 0, .ref (28:Nat), .bool false, .int 181 0, .ref (29:Nat), .none, .none, .none, .none, .int 285 0, .int 10 0, .str (.ofString "/claim/cut.py") 286]) #[]
noncomputable def o_75 (P : Params) : Obj := .mk (.type "frame") none .plain #[some (.ref (30:Nat)), some (.ref (3:Nat)), some (.ref (27:Nat)), none, some (.str (.ofString "grammarmill.source") 278), none, some (.ref (0:Nat))]
noncomputable def o_78 (P : Params) : Obj := .mk .none none (.fields #[]) #[]
noncomputable def o_81 (P : Params) : Obj := .mk .none none (.func (.mk (.ofString "__init__") (.ofString "ToolError.__init__") (fd P 39).params (fd P 39).body (fd P 39).scope 0 [] .none .none .none .none none .none .none 0)) #[]
noncomputable def o_85 (P : Params) : Obj := .mk .none none (.fields #[]) #[]
noncomputable def o_88 (P : Params) : Obj := .mk .none none (.func (.mk (.ofString "told") (.ofString "ToolError.told") (fd P 46).params (fd P 46).body (fd P 46).scope 0 [] .none .none .none .none none .none .none 0)) #[]
noncomputable def o_93 (P : Params) : Obj := .mk (.type "type") none (.cls (.mk (.ofString "ToolError") [.type "Exception"] [.ref (49:Nat), .type "Exception", .type "BaseException", .type "object"] 48 (.ofString "ToolError") true [] [] false none false)) #[some (.ref (25:Nat)), none, some (.str (.ofString "ToolError") 280), some (.str (.ofString "ToolError") 288), some (.builtin "Exception.__new__"), some (.bool true)]
noncomputable def o_95 (P : Params) : Obj := .mk (.type "super") none (.fields #[.ref (49:Nat), .ref (49:Nat), .ref (49:Nat)]) #[]
noncomputable def o_96 (P : Params) : Obj := .mk (.type "builtin_function_or_method") none (.fields #[.builtin "object.__init_subclass__", .ref (49:Nat)]) #[]
noncomputable def o_97 (P : Params) : Obj := .mk (.type "dict") none (.dict #[.mk (kh P (.ofString "__name__")) (.str (.ofString "__name__") 165) (.str (.ofString "grammarmill.source") 278), .mk (kh P (.ofString "__doc__")) (.str (.ofString "__doc__") 166) .none, .mk (kh P (.ofString "__package__")) (.str (.ofString "__package__") 167) .none, .mk (kh P (.ofString "__loader__")) (.str (.ofString "__loader__") 168) (.builtin "__main__.__loader__#opaque"), .mk (kh P (.ofString "__spec__")) (.str (.ofString "__spec__") 169) .none, .mk (kh P (.ofString "__annotations__")) (.str (.ofString "__annotations__") 170) (.ref (6:Nat)), .mk (kh P (.ofString "__builtins__")) (.str (.ofString "__builtins__") 171) (.ref (4:Nat)), .mk (kh P (.ofString "__file__")) (.str (.ofString "__file__") 173) (.str (.ofString "/claim/cut.py") 172), .mk (kh P (.ofString "__cached__")) (.str (.ofString "__cached__") 174) .none, .mk (kh P (.ofString "_wall")) (.str (.ofString "_wall") 193) (.ref (21:Nat)), .mk (kh P (.ofString "WORDS")) (.str (.ofString "WORDS") 199) (.ref (22:Nat)), .mk (kh P (.ofString "LEVELS")) (.str (.ofString "LEVELS") 239) (.ref (23:Nat)), .mk (kh P (.ofString "FUNCTIONS")) (.str (.ofString "FUNCTIONS") 273) (.ref (24:Nat)), .mk (kh P (.ofString "MOST_BITS")) (.str (.ofString "MOST_BITS") 275) (.int 512 274), .mk (kh P (.ofString "MOST_SIZE")) (.str (.ofString "MOST_SIZE") 277) (.int 2000 276), .mk (kh P (.ofString "ToolError")) (.str (.ofString "ToolError") 317) (.ref (49:Nat)), .mk (kh P (.ofString "ActionError")) (.str (.ofString "ActionError") 333) (.ref (62:Nat))] 17) #[]
noncomputable def o_98 (P : Params) : Obj := .mk .none none (.fields #[.int 1 0, .int 0 0, .ref (20:Nat), .int 10 0, .int 0 0, .ref (30:Nat), .int 19 0, .int 0 0, .ref (58:Nat)]) #[]
noncomputable def o_99 (P : Params) : Obj := .mk (.type "type") none (.cls (.mk (.ofString "ToolError") [.type "Exception"] [.ref (49:Nat), .type "Exception", .type "BaseException", .type "object"] 48 (.ofString "ToolError") true [] [.ref (62:Nat)] false none false)) #[some (.ref (25:Nat)), none, some (.str (.ofString "ToolError") 280), some (.str (.ofString "ToolError") 288), some (.builtin "Exception.__new__"), some (.bool true)]
noncomputable def o_101 (P : Params) : Obj := .mk (.type "builtin_function_or_method") none (.fields #[.builtin "type.__prepare__", .type "type"]) #[]
noncomputable def o_102 (P : Params) : Obj := .mk (.type "dict") none (.dict #[.mk (kh P (.ofString "__module__")) (.str (.ofString "__module__") 325) (.str (.ofString "grammarmill.source") 278), .mk (kh P (.ofString "__qualname__")) (.str (.ofString "__qualname__") 327) (.str (.ofString "ActionError") 326), .mk (kh P (.ofString "__firstlineno__")) (.str (.ofString "__firstlineno__") 329) (.int 19 328), .mk (kh P (.ofString "__static_attributes__")) (.str (.ofString "__static_attributes__") 330) (.ref (60:Nat))] 4) #[]
noncomputable def o_104 (P : Params) : Obj := .mk .none none (.fields #[]) #[]
noncomputable def o_105 (P : Params) : Obj := .mk (.type "code") none (.fields #[.str (.ofString "ActionError") 320, .str (.ofString "ActionError") 321, .str (.ofString "/claim/cut.py") 322, .int 19 0, .int 0 0, .int 0 0, .int 0 0, .int 0 0, .ref (56:Nat), .bool false, .int 181 0, .ref (57:Nat), .none, .none, .none, .none, .int 323 0, .int 19 0, .str (.ofString "/claim/cut.py") 324]) #[]
noncomputable def o_106 (P : Params) : Obj := .mk (.type "frame") none .plain #[some (.ref (58:Nat)), some (.ref (3:Nat)), some (.ref (55:Nat)), none, some (.str (.ofString "grammarmill.source") 278), none, some (.ref (0:Nat))]
noncomputable def o_110 (P : Params) : Obj := .mk (.type "super") none (.fields #[.ref (62:Nat), .ref (62:Nat), .ref (62:Nat)]) #[]
noncomputable def o_111 (P : Params) : Obj := .mk (.type "builtin_function_or_method") none (.fields #[.builtin "object.__init_subclass__", .ref (62:Nat)]) #[]
noncomputable def o_112 (P : Params) : Obj := .mk (.type "dict") none (.dict #[.mk (kh P (.ofString "__name__")) (.str (.ofString "__name__") 165) (.str (.ofString "grammarmill.codes") 350), .mk (kh P (.ofString "__doc__")) (.str (.ofString "__doc__") 166) .none, .mk (kh P (.ofString "__package__")) (.str (.ofString "__package__") 167) .none, .mk (kh P (.ofString "__loader__")) (.str (.ofString "__loader__") 168) (.builtin "__main__.__loader__#opaque"), .mk (kh P (.ofString "__spec__")) (.str (.ofString "__spec__") 169) .none, .mk (kh P (.ofString "__annotations__")) (.str (.ofString "__annotations__") 170) (.ref (6:Nat)), .mk (kh P (.ofString "__builtins__")) (.str (.ofString "__builtins__") 171) (.ref (4:Nat)), .mk (kh P (.ofString "__file__")) (.str (.ofString "__file__") 173) (.str (.ofString "/claim/cut.py") 172), .mk (kh P (.ofString "__cached__")) (.str (.ofString "__cached__") 174) .none, .mk (kh P (.ofString "_wall")) (.str (.ofString "_wall") 193) (.ref (21:Nat)), .mk (kh P (.ofString "WORDS")) (.str (.ofString "WORDS") 199) (.ref (22:Nat)), .mk (kh P (.ofString "LEVELS")) (.str (.ofString "LEVELS") 239) (.ref (23:Nat)), .mk (kh P (.ofString "FUNCTIONS")) (.str (.ofString "FUNCTIONS") 273) (.ref (24:Nat)), .mk (kh P (.ofString "MOST_BITS")) (.str (.ofString "MOST_BITS") 275) (.int 512 274), .mk (kh P (.ofString "MOST_SIZE")) (.str (.ofString "MOST_SIZE") 277) (.int 2000 276), .mk (kh P (.ofString "ToolError")) (.str (.ofString "ToolError") 317) (.ref (49:Nat)), .mk (kh P (.ofString "ActionError")) (.str (.ofString "ActionError") 333) (.ref (62:Nat)), .mk (kh P (.ofString "MachineError")) (.str (.ofString "MachineError") 349) (.ref (74:Nat)), .mk (kh P (.ofString "LEAVING")) (.str (.ofString "LEAVING") 355) (.ref (77:Nat)), .mk (kh P (.ofString "COMPARISONS")) (.str (.ofString "COMPARISONS") 362) (.ref (78:Nat)), .mk (kh P (.ofString "JUMPS")) (.str (.ofString "JUMPS") 366) (.ref (79:Nat)), .mk (kh P (.ofString "MOST_PARTS")) (.str (.ofString "MOST_PARTS") 368) (.int 300 367), .mk (kh P (.ofString "is_number")) (.str (.ofString "is_number") 375) (.ref (86:Nat)), .mk (kh P (.ofString "is_true")) (.str (.ofString "is_true") 382) (.ref (93:Nat)), .mk (kh P (.ofString "bounded")) (.str (.ofString "bounded") 389) (.ref (100:Nat)), .mk (kh P (.ofString "added")) (.str (.ofString "added") 398) (.ref (107:Nat))] 26) #[]
noncomputable def o_113 (P : Params) : Obj := .mk .none none (.fields #[.int 1 0, .int 0 0, .ref (20:Nat), .int 10 0, .int 0 0, .ref (30:Nat), .int 19 0, .int 0 0, .ref (58:Nat), .int 21 0, .int 0 0, .ref (70:Nat), .int 28 0, .int 0 0, .ref (85:Nat), .int 30 0, .int 0 0, .ref (92:Nat), .int 32 0, .int 0 0, .ref (99:Nat), .int 39 0, .int 0 0, .ref (106:Nat)]) #[]
noncomputable def o_116 (P : Params) : Obj := .mk (.type "builtin_function_or_method") none (.fields #[.builtin "type.__prepare__", .type "type"]) #[]
noncomputable def o_117 (P : Params) : Obj := .mk (.type "dict") none (.dict #[.mk (kh P (.ofString "__module__")) (.str (.ofString "__module__") 341) (.str (.ofString "grammarmill.source") 278), .mk (kh P (.ofString "__qualname__")) (.str (.ofString "__qualname__") 343) (.str (.ofString "MachineError") 342), .mk (kh P (.ofString "__firstlineno__")) (.str (.ofString "__firstlineno__") 345) (.int 21 344), .mk (kh P (.ofString "__static_attributes__")) (.str (.ofString "__static_attributes__") 346) (.ref (72:Nat))] 4) #[]
noncomputable def o_119 (P : Params) : Obj := .mk .none none (.fields #[]) #[]
noncomputable def o_120 (P : Params) : Obj := .mk (.type "code") none (.fields #[.str (.ofString "MachineError") 336, .str (.ofString "MachineError") 337, .str (.ofString "/claim/cut.py") 338, .int 21 0, .int 0 0, .int 0 0, .int 0 0, .int 0 0, .ref (68:Nat), .bool false, .int 181 0, .ref (69:Nat), .none, .none, .none, .none, .int 339 0, .int 21 0, .str (.ofString "/claim/cut.py") 340]) #[]
noncomputable def o_121 (P : Params) : Obj := .mk (.type "frame") none .plain #[some (.ref (70:Nat)), some (.ref (3:Nat)), some (.ref (67:Nat)), none, some (.str (.ofString "grammarmill.source") 278), none, some (.ref (0:Nat))]
noncomputable def o_125 (P : Params) : Obj := .mk (.type "super") none (.fields #[.ref (74:Nat), .ref (74:Nat), .ref (74:Nat)]) #[]
noncomputable def o_126 (P : Params) : Obj := .mk (.type "builtin_function_or_method") none (.fields #[.builtin "object.__init_subclass__", .ref (74:Nat)]) #[]
noncomputable def o_131 (P : Params) : Obj := .mk .none none (.fields #[]) #[]
noncomputable def o_134 (P : Params) : Obj := .mk .none none (.func (.mk (.ofString "is_number") (.ofString "is_number") (fd P 86).params (fd P 86).body (fd P 86).scope 0 [] .none .none .none .none none .none .none 0)) #[]
noncomputable def o_138 (P : Params) : Obj := .mk .none none (.fields #[]) #[]
noncomputable def o_141 (P : Params) : Obj := .mk .none none (.func (.mk (.ofString "is_true") (.ofString "is_true") (fd P 93).params (fd P 93).body (fd P 93).scope 0 [] .none .none .none .none none .none .none 0)) #[]
noncomputable def o_145 (P : Params) : Obj := .mk .none none (.fields #[]) #[]
noncomputable def o_148 (P : Params) : Obj := .mk .none none (.func (.mk (.ofString "bounded") (.ofString "bounded") (fd P 100).params (fd P 100).body (fd P 100).scope 0 [] .none .none .none .none none .none .none 0)) #[]
noncomputable def o_152 (P : Params) : Obj := .mk .none none (.fields #[]) #[]
noncomputable def o_155 (P : Params) : Obj := .mk .none none (.func (.mk (.ofString "added") (.ofString "added") (fd P 107).params (fd P 107).body (fd P 107).scope 0 [] .none .none .none .none none .none .none 0)) #[]
noncomputable def o_158 (P : Params) : Obj := .mk (.type "dict") none (.dict #[.mk (kh P (.ofString "__name__")) (.str (.ofString "__name__") 165) (.str (.ofString "grammarmill.driver") 495), .mk (kh P (.ofString "__doc__")) (.str (.ofString "__doc__") 166) .none, .mk (kh P (.ofString "__package__")) (.str (.ofString "__package__") 167) .none, .mk (kh P (.ofString "__loader__")) (.str (.ofString "__loader__") 168) (.builtin "__main__.__loader__#opaque"), .mk (kh P (.ofString "__spec__")) (.str (.ofString "__spec__") 169) .none, .mk (kh P (.ofString "__annotations__")) (.str (.ofString "__annotations__") 170) (.ref (6:Nat)), .mk (kh P (.ofString "__builtins__")) (.str (.ofString "__builtins__") 171) (.ref (4:Nat)), .mk (kh P (.ofString "__file__")) (.str (.ofString "__file__") 173) (.str (.ofString "/claim/cut.py") 172), .mk (kh P (.ofString "__cached__")) (.str (.ofString "__cached__") 174) .none, .mk (kh P (.ofString "_wall")) (.str (.ofString "_wall") 193) (.ref (21:Nat)), .mk (kh P (.ofString "WORDS")) (.str (.ofString "WORDS") 199) (.ref (22:Nat)), .mk (kh P (.ofString "LEVELS")) (.str (.ofString "LEVELS") 239) (.ref (23:Nat)), .mk (kh P (.ofString "FUNCTIONS")) (.str (.ofString "FUNCTIONS") 273) (.ref (24:Nat)), .mk (kh P (.ofString "MOST_BITS")) (.str (.ofString "MOST_BITS") 275) (.int 512 274), .mk (kh P (.ofString "MOST_SIZE")) (.str (.ofString "MOST_SIZE") 277) (.int 2000 276), .mk (kh P (.ofString "ToolError")) (.str (.ofString "ToolError") 317) (.ref (49:Nat)), .mk (kh P (.ofString "ActionError")) (.str (.ofString "ActionError") 333) (.ref (62:Nat)), .mk (kh P (.ofString "MachineError")) (.str (.ofString "MachineError") 349) (.ref (74:Nat)), .mk (kh P (.ofString "LEAVING")) (.str (.ofString "LEAVING") 355) (.ref (77:Nat)), .mk (kh P (.ofString "COMPARISONS")) (.str (.ofString "COMPARISONS") 362) (.ref (78:Nat)), .mk (kh P (.ofString "JUMPS")) (.str (.ofString "JUMPS") 366) (.ref (79:Nat)), .mk (kh P (.ofString "MOST_PARTS")) (.str (.ofString "MOST_PARTS") 368) (.int 300 367), .mk (kh P (.ofString "is_number")) (.str (.ofString "is_number") 375) (.ref (86:Nat)), .mk (kh P (.ofString "is_true")) (.str (.ofString "is_true") 382) (.ref (93:Nat)), .mk (kh P (.ofString "bounded")) (.str (.ofString "bounded") 389) (.ref (100:Nat)), .mk (kh P (.ofString "added")) (.str (.ofString "added") 398) (.ref (107:Nat)), .mk (kh P (.ofString "compared")) (.str (.ofString "compared") 408) (.ref (114:Nat)), .mk (kh P (.ofString "part_count")) (.str (.ofString "part_count") 418) (.ref (121:Nat)), .mk (kh P (.ofString "are_equal")) (.str (.ofString "are_equal") 426) (.ref (128:Nat)), .mk (kh P (.ofString "two_worth")) (.str (.ofString "two_worth") 435) (.ref (135:Nat)), .mk (kh P (.ofString "one_worth")) (.str (.ofString "one_worth") 443) (.ref (142:Nat)), .mk (kh P (.ofString "goals_behind")) (.str (.ofString "goals_behind") 453) (.ref (149:Nat)), .mk (kh P (.ofString "taken_and_put")) (.str (.ofString "taken_and_put") 461) (.ref (156:Nat)), .mk (kh P (.ofString "is_bounded")) (.str (.ofString "is_bounded") 468) (.ref (163:Nat)), .mk (kh P (.ofString "is_pair")) (.str (.ofString "is_pair") 477) (.ref (170:Nat)), .mk (kh P (.ofString "check_code")) (.str (.ofString "check_code") 483) (.ref (175:Nat)), .mk (kh P (.ofString "show_code")) (.str (.ofString "show_code") 494) (.ref (182:Nat))] 37) #[]
noncomputable def o_159 (P : Params) : Obj := .mk .none none (.fields #[.int 1 0, .int 0 0, .ref (20:Nat), .int 10 0, .int 0 0, .ref (30:Nat), .int 19 0, .int 0 0, .ref (58:Nat), .int 21 0, .int 0 0, .ref (70:Nat), .int 28 0, .int 0 0, .ref (85:Nat), .int 30 0, .int 0 0, .ref (92:Nat), .int 32 0, .int 0 0, .ref (99:Nat), .int 39 0, .int 0 0, .ref (106:Nat), .int 44 0, .int 0 0, .ref (113:Nat), .int 55 0, .int 0 0, .ref (120:Nat), .int 63 0, .int 0 0, .ref (127:Nat), .int 67 0, .int 0 0, .ref (134:Nat), .int 85 0, .int 0 0, .ref (141:Nat), .int 91 0, .int 0 0, .ref (148:Nat), .int 100 0, .int 0 0, .ref (155:Nat), .int 114 0, .int 0 0, .ref (162:Nat), .int 118 0, .int 0 0, .ref (169:Nat), .int 136 0, .int 0 0, .ref (174:Nat), .int 157 0, .int 0 0, .ref (181:Nat)]) #[]
noncomputable def o_161 (P : Params) : Obj := .mk .none none (.fields #[]) #[]
noncomputable def o_164 (P : Params) : Obj := .mk .none none (.func (.mk (.ofString "compared") (.ofString "compared") (fd P 114).params (fd P 114).body (fd P 114).scope 0 [] .none .none .none .none none .none .none 0)) #[]
noncomputable def o_168 (P : Params) : Obj := .mk .none none (.fields #[]) #[]
noncomputable def o_171 (P : Params) : Obj := .mk .none none (.func (.mk (.ofString "part_count") (.ofString "part_count") (fd P 121).params (fd P 121).body (fd P 121).scope 0 [] .none .none .none .none none .none .none 0)) #[]
noncomputable def o_175 (P : Params) : Obj := .mk .none none (.fields #[]) #[]
noncomputable def o_178 (P : Params) : Obj := .mk .none none (.func (.mk (.ofString "are_equal") (.ofString "are_equal") (fd P 128).params (fd P 128).body (fd P 128).scope 0 [] .none .none .none .none none .none .none 0)) #[]
noncomputable def o_182 (P : Params) : Obj := .mk .none none (.fields #[]) #[]
noncomputable def o_185 (P : Params) : Obj := .mk .none none (.func (.mk (.ofString "two_worth") (.ofString "two_worth") (fd P 135).params (fd P 135).body (fd P 135).scope 0 [] .none .none .none .none none .none .none 0)) #[]
noncomputable def o_189 (P : Params) : Obj := .mk .none none (.fields #[]) #[]
noncomputable def o_192 (P : Params) : Obj := .mk .none none (.func (.mk (.ofString "one_worth") (.ofString "one_worth") (fd P 142).params (fd P 142).body (fd P 142).scope 0 [] .none .none .none .none none .none .none 0)) #[]
noncomputable def o_196 (P : Params) : Obj := .mk .none none (.fields #[]) #[]
noncomputable def o_199 (P : Params) : Obj := .mk .none none (.func (.mk (.ofString "goals_behind") (.ofString "goals_behind") (fd P 149).params (fd P 149).body (fd P 149).scope 0 [] .none .none .none .none none .none .none 0)) #[]
noncomputable def o_203 (P : Params) : Obj := .mk .none none (.fields #[]) #[]
noncomputable def o_206 (P : Params) : Obj := .mk .none none (.func (.mk (.ofString "taken_and_put") (.ofString "taken_and_put") (fd P 156).params (fd P 156).body (fd P 156).scope 0 [] .none .none .none .none none .none .none 0)) #[]
noncomputable def o_210 (P : Params) : Obj := .mk .none none (.fields #[]) #[]
noncomputable def o_213 (P : Params) : Obj := .mk .none none (.func (.mk (.ofString "is_bounded") (.ofString "is_bounded") (fd P 163).params (fd P 163).body (fd P 163).scope 0 [] .none .none .none .none none .none .none 0)) #[]
noncomputable def o_217 (P : Params) : Obj := .mk .none none (.fields #[]) #[]
noncomputable def o_220 (P : Params) : Obj := .mk .none none (.func (.mk (.ofString "is_pair") (.ofString "is_pair") (fd P 170).params (fd P 170).body (fd P 170).scope 0 [] .none .none .none .none none .none .none 0)) #[]
noncomputable def o_224 (P : Params) : Obj := .mk .none none (.fields #[]) #[]
noncomputable def o_225 (P : Params) : Obj := .mk .none none (.func (.mk (.ofString "check_code") (.ofString "check_code") (fd P 175).params (fd P 175).body (fd P 175).scope 0 [] .none .none .none .none none .none .none 0)) #[]
noncomputable def o_229 (P : Params) : Obj := .mk .none none (.fields #[]) #[]
noncomputable def o_232 (P : Params) : Obj := .mk .none none (.func (.mk (.ofString "show_code") (.ofString "show_code") (fd P 182).params (fd P 182).body (fd P 182).scope 0 [] .none .none .none .none none .none .none 0)) #[]
noncomputable def o_235 (P : Params) : Obj := .mk (.type "dict") none (.dict #[.mk (kh P (.ofString "__name__")) (.str (.ofString "__name__") 165) (.str (.ofString "grammarmill.machine") 542), .mk (kh P (.ofString "__doc__")) (.str (.ofString "__doc__") 166) .none, .mk (kh P (.ofString "__package__")) (.str (.ofString "__package__") 167) .none, .mk (kh P (.ofString "__loader__")) (.str (.ofString "__loader__") 168) (.builtin "__main__.__loader__#opaque"), .mk (kh P (.ofString "__spec__")) (.str (.ofString "__spec__") 169) .none, .mk (kh P (.ofString "__annotations__")) (.str (.ofString "__annotations__") 170) (.ref (6:Nat)), .mk (kh P (.ofString "__builtins__")) (.str (.ofString "__builtins__") 171) (.ref (4:Nat)), .mk (kh P (.ofString "__file__")) (.str (.ofString "__file__") 173) (.str (.ofString "/claim/cut.py") 172), .mk (kh P (.ofString "__cached__")) (.str (.ofString "__cached__") 174) .none, .mk (kh P (.ofString "_wall")) (.str (.ofString "_wall") 193) (.ref (21:Nat)), .mk (kh P (.ofString "WORDS")) (.str (.ofString "WORDS") 199) (.ref (22:Nat)), .mk (kh P (.ofString "LEVELS")) (.str (.ofString "LEVELS") 239) (.ref (23:Nat)), .mk (kh P (.ofString "FUNCTIONS")) (.str (.ofString "FUNCTIONS") 273) (.ref (24:Nat)), .mk (kh P (.ofString "MOST_BITS")) (.str (.ofString "MOST_BITS") 275) (.int 512 274), .mk (kh P (.ofString "MOST_SIZE")) (.str (.ofString "MOST_SIZE") 277) (.int 2000 276), .mk (kh P (.ofString "ToolError")) (.str (.ofString "ToolError") 317) (.ref (49:Nat)), .mk (kh P (.ofString "ActionError")) (.str (.ofString "ActionError") 333) (.ref (62:Nat)), .mk (kh P (.ofString "MachineError")) (.str (.ofString "MachineError") 349) (.ref (74:Nat)), .mk (kh P (.ofString "LEAVING")) (.str (.ofString "LEAVING") 355) (.ref (77:Nat)), .mk (kh P (.ofString "COMPARISONS")) (.str (.ofString "COMPARISONS") 362) (.ref (78:Nat)), .mk (kh P (.ofString "JUMPS")) (.str (.ofString "JUMPS") 366) (.ref (79:Nat)), .mk (kh P (.ofString "MOST_PARTS")) (.str (.ofString "MOST_PARTS") 368) (.int 300 367), .mk (kh P (.ofString "is_number")) (.str (.ofString "is_number") 375) (.ref (86:Nat)), .mk (kh P (.ofString "is_true")) (.str (.ofString "is_true") 382) (.ref (93:Nat)), .mk (kh P (.ofString "bounded")) (.str (.ofString "bounded") 389) (.ref (100:Nat)), .mk (kh P (.ofString "added")) (.str (.ofString "added") 398) (.ref (107:Nat)), .mk (kh P (.ofString "compared")) (.str (.ofString "compared") 408) (.ref (114:Nat)), .mk (kh P (.ofString "part_count")) (.str (.ofString "part_count") 418) (.ref (121:Nat)), .mk (kh P (.ofString "are_equal")) (.str (.ofString "are_equal") 426) (.ref (128:Nat)), .mk (kh P (.ofString "two_worth")) (.str (.ofString "two_worth") 435) (.ref (135:Nat)), .mk (kh P (.ofString "one_worth")) (.str (.ofString "one_worth") 443) (.ref (142:Nat)), .mk (kh P (.ofString "goals_behind")) (.str (.ofString "goals_behind") 453) (.ref (149:Nat)), .mk (kh P (.ofString "taken_and_put")) (.str (.ofString "taken_and_put") 461) (.ref (156:Nat)), .mk (kh P (.ofString "is_bounded")) (.str (.ofString "is_bounded") 468) (.ref (163:Nat)), .mk (kh P (.ofString "is_pair")) (.str (.ofString "is_pair") 477) (.ref (170:Nat)), .mk (kh P (.ofString "check_code")) (.str (.ofString "check_code") 483) (.ref (175:Nat)), .mk (kh P (.ofString "show_code")) (.str (.ofString "show_code") 494) (.ref (182:Nat)), .mk (kh P (.ofString "Handler")) (.str (.ofString "Handler") 541) (.ref (213:Nat)), .mk (kh P (.ofString "MOST_FIGURES")) (.str (.ofString "MOST_FIGURES") 545) (.int 160 544), .mk (kh P (.ofString "need")) (.str (.ofString "need") 553) (.ref (224:Nat)), .mk (kh P (.ofString "need_list")) (.str (.ofString "need_list") 560) (.ref (231:Nat)), .mk (kh P (.ofString "need_row")) (.str (.ofString "need_row") 567) (.ref (238:Nat))] 42) #[]
noncomputable def o_236 (P : Params) : Obj := .mk .none none (.fields (List.toArray (.int 1 0 :: .int 0 0 :: .ref (20:Nat) :: .int 10 0 :: .int 0 0 :: .ref (30:Nat) :: .int 19 0 :: .int 0 0 :: .ref (58:Nat) :: .int 21 0 :: .int 0 0 :: .ref (70:Nat) :: .int 28 0 :: .int 0 0 :: .ref (85:Nat) :: .int 30 0 :: .int 0 0 :: .ref (92:Nat) :: .int 32 0 :: .int 0 0 :: .ref (99:Nat) :: .int 39 0 :: .int 0 0 :: .ref (106:Nat) :: .int 44 0 :: .int 0 0 :: .ref (113:Nat) :: .int 55 0 :: .int 0 0 :: .ref (120:Nat) :: .int 63 0 :: .int 0 0 :: .ref (127:Nat) :: .int 67 0 :: .int 0 0 :: .ref (134:Nat) :: .int 85 0 :: .int 0 0 :: .ref (141:Nat) :: .int 91 0 :: .int 0 0 :: .ref (148:Nat) :: .int 100 0 :: .int 0 0 :: .ref (155:Nat) :: .int 114 0 :: .int 0 0 :: .ref (162:Nat) :: .int 118 0 :: .int 0 0 :: .ref (169:Nat) :: .int 136 0 :: .int 0 0 :: .ref (174:Nat) :: .int 157 0 :: .int 0 0 :: .ref (181:Nat) :: .int 164 0 :: .int 0 0 :: .ref (188:Nat) :: .int 176 0 :: .int 0 0 :: .ref (223:Nat) :: .int 179 0 :: .int 0 0 :: .ref (230:Nat) :: .int 182 0 :: .int 0 0 :: .ref (237:Nat) :: []))) #[]
noncomputable def o_238 (P : Params) : Obj := .mk (.type "builtin_function_or_method") none (.fields #[.builtin "type.__prepare__", .type "type"]) #[]
noncomputable def o_239 (P : Params) : Obj := .mk (.type "dict") none (.dict #[.mk (kh P (.ofString "__module__")) (.str (.ofString "__module__") 504) (.str (.ofString "grammarmill.driver") 495), .mk (kh P (.ofString "__qualname__")) (.str (.ofString "__qualname__") 506) (.str (.ofString "Handler") 505), .mk (kh P (.ofString "__firstlineno__")) (.str (.ofString "__firstlineno__") 508) (.int 164 507), .mk (kh P (.ofString "shift")) (.str (.ofString "shift") 516) (.ref (196:Nat)), .mk (kh P (.ofString "reduce")) (.str (.ofString "reduce") 526) (.ref (203:Nat)), .mk (kh P (.ofString "recover")) (.str (.ofString "recover") 533) (.ref (210:Nat)), .mk (kh P (.ofString "__static_attributes__")) (.str (.ofString "__static_attributes__") 534) (.ref (211:Nat))] 7) #[]
noncomputable def o_241 (P : Params) : Obj := .mk .none none (.fields #[.int 166 0, .int 4 0, .ref (195:Nat), .int 169 0, .int 4 0, .ref (202:Nat), .int 172 0, .int 4 0, .ref (209:Nat)]) #[]
noncomputable def o_242 (P : Params) : Obj := .mk (.type "code") none (.fields #[.str (.ofString "Handler") 499, .str (.ofString "Handler") 500, .str (.ofString "/claim/cut.py") 501, .int 164 0, .int 0 0, .int 0 0, .int 0 0, .int 0 0, .ref (186:Nat), .bool false, .int 181 0, .ref (187:Nat), .none, .none, .none, .none, .int 502 0, .int 164 0, .str (.ofString "/claim/cut.py") 503]) #[]
noncomputable def o_243 (P : Params) : Obj := .mk (.type "frame") none .plain #[some (.ref (188:Nat)), some (.ref (3:Nat)), some (.ref (185:Nat)), none, some (.str (.ofString "grammarmill.driver") 495), none, some (.ref (0:Nat))]
noncomputable def o_245 (P : Params) : Obj := .mk .none none (.fields #[]) #[]
noncomputable def o_248 (P : Params) : Obj := .mk .none none (.func (.mk (.ofString "shift") (.ofString "Handler.shift") (fd P 196).params (fd P 196).body (fd P 196).scope 0 [] .none .none .none .none none .none .none 0)) #[]
noncomputable def o_252 (P : Params) : Obj := .mk .none none (.fields #[]) #[]
noncomputable def o_255 (P : Params) : Obj := .mk .none none (.func (.mk (.ofString "reduce") (.ofString "Handler.reduce") (fd P 203).params (fd P 203).body (fd P 203).scope 0 [] .none .none .none .none none .none .none 0)) #[]
noncomputable def o_259 (P : Params) : Obj := .mk .none none (.fields #[]) #[]
noncomputable def o_262 (P : Params) : Obj := .mk .none none (.func (.mk (.ofString "recover") (.ofString "Handler.recover") (fd P 210).params (fd P 210).body (fd P 46).scope 0 [] .none .none .none .none none .none .none 0)) #[]
noncomputable def o_267 (P : Params) : Obj := .mk (.type "type") none (.cls (.mk (.ofString "Handler") [.type "object"] [.ref (213:Nat), .type "object"] 212 (.ofString "Handler") true [] [] false none false)) #[none, none, some (.str (.ofString "Handler") 497), some (.str (.ofString "Handler") 505), some (.builtin "object.__new__"), some (.bool true)]
noncomputable def o_270 (P : Params) : Obj := .mk (.type "super") none (.fields #[.ref (213:Nat), .ref (213:Nat), .ref (213:Nat)]) #[]
noncomputable def o_271 (P : Params) : Obj := .mk (.type "builtin_function_or_method") none (.fields #[.builtin "object.__init_subclass__", .ref (213:Nat)]) #[]
noncomputable def o_273 (P : Params) : Obj := .mk .none none (.fields #[]) #[]
noncomputable def o_276 (P : Params) : Obj := .mk .none none (.func (.mk (.ofString "need") (.ofString "need") (fd P 224).params (fd P 224).body (fd P 224).scope 0 [] .none .none .none .none none .none .none 0)) #[]
noncomputable def o_280 (P : Params) : Obj := .mk .none none (.fields #[]) #[]
noncomputable def o_283 (P : Params) : Obj := .mk .none none (.func (.mk (.ofString "need_list") (.ofString "need_list") (fd P 231).params (fd P 231).body (fd P 231).scope 0 [] .none .none .none .none none .none .none 0)) #[]
noncomputable def o_287 (P : Params) : Obj := .mk .none none (.fields #[]) #[]
noncomputable def o_290 (P : Params) : Obj := .mk .none none (.func (.mk (.ofString "need_row") (.ofString "need_row") (fd P 238).params (fd P 238).body (fd P 238).scope 0 [] .none .none .none .none none .none .none 0)) #[]
noncomputable def o_293 (P : Params) : Obj := .mk (.type "dict") none (.dict #[.mk (kh P (.ofString "__name__")) (.str (.ofString "__name__") 165) (.str (.ofString "grammarmill.machine") 542), .mk (kh P (.ofString "__doc__")) (.str (.ofString "__doc__") 166) .none, .mk (kh P (.ofString "__package__")) (.str (.ofString "__package__") 167) .none, .mk (kh P (.ofString "__loader__")) (.str (.ofString "__loader__") 168) (.builtin "__main__.__loader__#opaque"), .mk (kh P (.ofString "__spec__")) (.str (.ofString "__spec__") 169) .none, .mk (kh P (.ofString "__annotations__")) (.str (.ofString "__annotations__") 170) (.ref (6:Nat)), .mk (kh P (.ofString "__builtins__")) (.str (.ofString "__builtins__") 171) (.ref (4:Nat)), .mk (kh P (.ofString "__file__")) (.str (.ofString "__file__") 173) (.str (.ofString "/claim/cut.py") 172), .mk (kh P (.ofString "__cached__")) (.str (.ofString "__cached__") 174) .none, .mk (kh P (.ofString "_wall")) (.str (.ofString "_wall") 193) (.ref (21:Nat)), .mk (kh P (.ofString "WORDS")) (.str (.ofString "WORDS") 199) (.ref (22:Nat)), .mk (kh P (.ofString "LEVELS")) (.str (.ofString "LEVELS") 239) (.ref (23:Nat)), .mk (kh P (.ofString "FUNCTIONS")) (.str (.ofString "FUNCTIONS") 273) (.ref (24:Nat)), .mk (kh P (.ofString "MOST_BITS")) (.str (.ofString "MOST_BITS") 275) (.int 512 274), .mk (kh P (.ofString "MOST_SIZE")) (.str (.ofString "MOST_SIZE") 277) (.int 2000 276), .mk (kh P (.ofString "ToolError")) (.str (.ofString "ToolError") 317) (.ref (49:Nat)), .mk (kh P (.ofString "ActionError")) (.str (.ofString "ActionError") 333) (.ref (62:Nat)), .mk (kh P (.ofString "MachineError")) (.str (.ofString "MachineError") 349) (.ref (74:Nat)), .mk (kh P (.ofString "LEAVING")) (.str (.ofString "LEAVING") 355) (.ref (77:Nat)), .mk (kh P (.ofString "COMPARISONS")) (.str (.ofString "COMPARISONS") 362) (.ref (78:Nat)), .mk (kh P (.ofString "JUMPS")) (.str (.ofString "JUMPS") 366) (.ref (79:Nat)), .mk (kh P (.ofString "MOST_PARTS")) (.str (.ofString "MOST_PARTS") 368) (.int 300 367), .mk (kh P (.ofString "is_number")) (.str (.ofString "is_number") 375) (.ref (86:Nat)), .mk (kh P (.ofString "is_true")) (.str (.ofString "is_true") 382) (.ref (93:Nat)), .mk (kh P (.ofString "bounded")) (.str (.ofString "bounded") 389) (.ref (100:Nat)), .mk (kh P (.ofString "added")) (.str (.ofString "added") 398) (.ref (107:Nat)), .mk (kh P (.ofString "compared")) (.str (.ofString "compared") 408) (.ref (114:Nat)), .mk (kh P (.ofString "part_count")) (.str (.ofString "part_count") 418) (.ref (121:Nat)), .mk (kh P (.ofString "are_equal")) (.str (.ofString "are_equal") 426) (.ref (128:Nat)), .mk (kh P (.ofString "two_worth")) (.str (.ofString "two_worth") 435) (.ref (135:Nat)), .mk (kh P (.ofString "one_worth")) (.str (.ofString "one_worth") 443) (.ref (142:Nat)), .mk (kh P (.ofString "goals_behind")) (.str (.ofString "goals_behind") 453) (.ref (149:Nat)), .mk (kh P (.ofString "taken_and_put")) (.str (.ofString "taken_and_put") 461) (.ref (156:Nat)), .mk (kh P (.ofString "is_bounded")) (.str (.ofString "is_bounded") 468) (.ref (163:Nat)), .mk (kh P (.ofString "is_pair")) (.str (.ofString "is_pair") 477) (.ref (170:Nat)), .mk (kh P (.ofString "check_code")) (.str (.ofString "check_code") 483) (.ref (175:Nat)), .mk (kh P (.ofString "show_code")) (.str (.ofString "show_code") 494) (.ref (182:Nat)), .mk (kh P (.ofString "Handler")) (.str (.ofString "Handler") 541) (.ref (213:Nat)), .mk (kh P (.ofString "MOST_FIGURES")) (.str (.ofString "MOST_FIGURES") 545) (.int 160 544), .mk (kh P (.ofString "need")) (.str (.ofString "need") 553) (.ref (224:Nat)), .mk (kh P (.ofString "need_list")) (.str (.ofString "need_list") 560) (.ref (231:Nat)), .mk (kh P (.ofString "need_row")) (.str (.ofString "need_row") 567) (.ref (238:Nat)), .mk (kh P (.ofString "need_number")) (.str (.ofString "need_number") 576) (.ref (245:Nat)), .mk (kh P (.ofString "number_of")) (.str (.ofString "number_of") 586) (.ref (252:Nat)), .mk (kh P (.ofString "text_of")) (.str (.ofString "text_of") 593) (.ref (259:Nat)), .mk (kh P (.ofString "glued")) (.str (.ofString "glued") 602) (.ref (266:Nat)), .mk (kh P (.ofString "turned")) (.str (.ofString "turned") 609) (.ref (273:Nat)), .mk (kh P (.ofString "item_of")) (.str (.ofString "item_of") 617) (.ref (280:Nat)), .mk (kh P (.ofString "cut_of")) (.str (.ofString "cut_of") 626) (.ref (287:Nat)), .mk (kh P (.ofString "end_of")) (.str (.ofString "end_of") 634) (.ref (294:Nat)), .mk (kh P (.ofString "call_of_one")) (.str (.ofString "call_of_one") 642) (.ref (301:Nat)), .mk (kh P (.ofString "applied")) (.str (.ofString "applied") 650) (.ref (308:Nat)), .mk (kh P (.ofString "value_at")) (.str (.ofString "value_at") 658) (.ref (315:Nat)), .mk (kh P (.ofString "controlled")) (.str (.ofString "controlled") 666) (.ref (322:Nat))] 54) #[]
noncomputable def o_294 (P : Params) : Obj := .mk .none none (.fields (List.toArray (.int 1 0 :: .int 0 0 :: .ref (20:Nat) :: .int 10 0 :: .int 0 0 :: .ref (30:Nat) :: .int 19 0 :: .int 0 0 :: .ref (58:Nat) :: .int 21 0 :: .int 0 0 :: .ref (70:Nat) :: .int 28 0 :: .int 0 0 :: .ref (85:Nat) :: .int 30 0 :: .int 0 0 :: .ref (92:Nat) :: .int 32 0 :: .int 0 0 :: .ref (99:Nat) :: .int 39 0 :: .int 0 0 :: .ref (106:Nat) :: .int 44 0 :: .int 0 0 :: .ref (113:Nat) :: .int 55 0 :: .int 0 0 :: .ref (120:Nat) :: .int 63 0 :: .int 0 0 :: .ref (127:Nat) :: .int 67 0 :: .int 0 0 :: .ref (134:Nat) :: .int 85 0 :: .int 0 0 :: .ref (141:Nat) :: .int 91 0 :: .int 0 0 :: .ref (148:Nat) :: .int 100 0 :: .int 0 0 :: .ref (155:Nat) :: .int 114 0 :: .int 0 0 :: .ref (162:Nat) :: .int 118 0 :: .int 0 0 :: .ref (169:Nat) :: .int 136 0 :: .int 0 0 :: .ref (174:Nat) :: .int 157 0 :: .int 0 0 :: .ref (181:Nat) :: .int 164 0 :: .int 0 0 :: .ref (188:Nat) :: .int 176 0 :: .int 0 0 :: .ref (223:Nat) :: .int 179 0 :: .int 0 0 :: .ref (230:Nat) :: .int 182 0 :: .int 0 0 :: .ref (237:Nat) :: .int 185 0 :: .int 0 0 :: .ref (244:Nat) :: .int 188 0 :: .int 0 0 :: .ref (251:Nat) :: .int 197 0 :: .int 0 0 :: .ref (258:Nat) :: .int 200 0 :: .int 0 0 :: .ref (265:Nat) :: .int 205 0 :: .int 0 0 :: .ref (272:Nat) :: .int 207 0 :: .int 0 0 :: .ref (279:Nat) :: .int 210 0 :: .int 0 0 :: .ref (286:Nat) :: .int 214 0 :: .int 0 0 :: .ref (293:Nat) :: .int 220 0 :: .int 0 0 :: .ref (300:Nat) :: .int 228 0 :: .int 0 0 :: .ref (307:Nat) :: .int 239 0 :: .int 0 0 :: .ref (314:Nat) :: .int 242 0 :: .int 0 0 :: .ref (321:Nat) :: []))) #[]
noncomputable def o_296 (P : Params) : Obj := .mk .none none (.fields #[]) #[]
noncomputable def o_299 (P : Params) : Obj := .mk .none none (.func (.mk (.ofString "need_number") (.ofString "need_number") (fd P 245).params (fd P 245).body (fd P 245).scope 0 [] .none .none .none .none none .none .none 0)) #[]
noncomputable def o_303 (P : Params) : Obj := .mk .none none (.fields #[]) #[]
noncomputable def o_306 (P : Params) : Obj := .mk .none none (.func (.mk (.ofString "number_of") (.ofString "number_of") (fd P 252).params (fd P 252).body (fd P 252).scope 0 [] .none .none .none .none none .none .none 0)) #[]
noncomputable def o_310 (P : Params) : Obj := .mk .none none (.fields #[]) #[]
noncomputable def o_313 (P : Params) : Obj := .mk .none none (.func (.mk (.ofString "text_of") (.ofString "text_of") (fd P 259).params (fd P 259).body (fd P 259).scope 0 [] .none .none .none .none none .none .none 0)) #[]
noncomputable def o_317 (P : Params) : Obj := .mk .none none (.fields #[]) #[]
noncomputable def o_320 (P : Params) : Obj := .mk .none none (.func (.mk (.ofString "glued") (.ofString "glued") (fd P 266).params (fd P 266).body (fd P 266).scope 0 [] .none .none .none .none none .none .none 0)) #[]
noncomputable def o_324 (P : Params) : Obj := .mk .none none (.fields #[]) #[]
noncomputable def o_327 (P : Params) : Obj := .mk .none none (.func (.mk (.ofString "turned") (.ofString "turned") (fd P 273).params (fd P 273).body (fd P 273).scope 0 [] .none .none .none .none none .none .none 0)) #[]
noncomputable def o_331 (P : Params) : Obj := .mk .none none (.fields #[]) #[]
noncomputable def o_334 (P : Params) : Obj := .mk .none none (.func (.mk (.ofString "item_of") (.ofString "item_of") (fd P 280).params (fd P 280).body (fd P 280).scope 0 [] .none .none .none .none none .none .none 0)) #[]
noncomputable def o_338 (P : Params) : Obj := .mk .none none (.fields #[]) #[]
noncomputable def o_341 (P : Params) : Obj := .mk .none none (.func (.mk (.ofString "cut_of") (.ofString "cut_of") (fd P 287).params (fd P 287).body (fd P 287).scope 0 [] .none .none .none .none none .none .none 0)) #[]
noncomputable def o_345 (P : Params) : Obj := .mk .none none (.fields #[]) #[]
noncomputable def o_348 (P : Params) : Obj := .mk .none none (.func (.mk (.ofString "end_of") (.ofString "end_of") (fd P 294).params (fd P 294).body (fd P 294).scope 0 [] .none .none .none .none none .none .none 0)) #[]
noncomputable def o_352 (P : Params) : Obj := .mk .none none (.fields #[]) #[]
noncomputable def o_355 (P : Params) : Obj := .mk .none none (.func (.mk (.ofString "call_of_one") (.ofString "call_of_one") (fd P 301).params (fd P 301).body (fd P 301).scope 0 [] .none .none .none .none none .none .none 0)) #[]
noncomputable def o_359 (P : Params) : Obj := .mk .none none (.fields #[]) #[]
noncomputable def o_362 (P : Params) : Obj := .mk .none none (.func (.mk (.ofString "applied") (.ofString "applied") (fd P 308).params (fd P 308).body (fd P 308).scope 0 [] .none .none .none .none none .none .none 0)) #[]
noncomputable def o_366 (P : Params) : Obj := .mk .none none (.fields #[]) #[]
noncomputable def o_369 (P : Params) : Obj := .mk .none none (.func (.mk (.ofString "value_at") (.ofString "value_at") (fd P 315).params (fd P 315).body (fd P 315).scope 0 [] .none .none .none .none none .none .none 0)) #[]
noncomputable def o_373 (P : Params) : Obj := .mk .none none (.fields #[]) #[]
noncomputable def o_376 (P : Params) : Obj := .mk .none none (.func (.mk (.ofString "controlled") (.ofString "controlled") (fd P 322).params (fd P 322).body (fd P 322).scope 0 [] .none .none .none .none none .none .none 0)) #[]
noncomputable def o_379 (P : Params) : Obj := .mk (.type "dict") none (.dict #[.mk (kh P (.ofString "__name__")) (.str (.ofString "__name__") 165) (.str (.ofString "grammarmill.machine") 542), .mk (kh P (.ofString "__doc__")) (.str (.ofString "__doc__") 166) .none, .mk (kh P (.ofString "__package__")) (.str (.ofString "__package__") 167) .none, .mk (kh P (.ofString "__loader__")) (.str (.ofString "__loader__") 168) (.builtin "__main__.__loader__#opaque"), .mk (kh P (.ofString "__spec__")) (.str (.ofString "__spec__") 169) .none, .mk (kh P (.ofString "__annotations__")) (.str (.ofString "__annotations__") 170) (.ref (6:Nat)), .mk (kh P (.ofString "__builtins__")) (.str (.ofString "__builtins__") 171) (.ref (4:Nat)), .mk (kh P (.ofString "__file__")) (.str (.ofString "__file__") 173) (.str (.ofString "/claim/cut.py") 172), .mk (kh P (.ofString "__cached__")) (.str (.ofString "__cached__") 174) .none, .mk (kh P (.ofString "_wall")) (.str (.ofString "_wall") 193) (.ref (21:Nat)), .mk (kh P (.ofString "WORDS")) (.str (.ofString "WORDS") 199) (.ref (22:Nat)), .mk (kh P (.ofString "LEVELS")) (.str (.ofString "LEVELS") 239) (.ref (23:Nat)), .mk (kh P (.ofString "FUNCTIONS")) (.str (.ofString "FUNCTIONS") 273) (.ref (24:Nat)), .mk (kh P (.ofString "MOST_BITS")) (.str (.ofString "MOST_BITS") 275) (.int 512 274), .mk (kh P (.ofString "MOST_SIZE")) (.str (.ofString "MOST_SIZE") 277) (.int 2000 276), .mk (kh P (.ofString "ToolError")) (.str (.ofString "ToolError") 317) (.ref (49:Nat)), .mk (kh P (.ofString "ActionError")) (.str (.ofString "ActionError") 333) (.ref (62:Nat)), .mk (kh P (.ofString "MachineError")) (.str (.ofString "MachineError") 349) (.ref (74:Nat)), .mk (kh P (.ofString "LEAVING")) (.str (.ofString "LEAVING") 355) (.ref (77:Nat)), .mk (kh P (.ofString "COMPARISONS")) (.str (.ofString "COMPARISONS") 362) (.ref (78:Nat)), .mk (kh P (.ofString "JUMPS")) (.str (.ofString "JUMPS") 366) (.ref (79:Nat)), .mk (kh P (.ofString "MOST_PARTS")) (.str (.ofString "MOST_PARTS") 368) (.int 300 367), .mk (kh P (.ofString "is_number")) (.str (.ofString "is_number") 375) (.ref (86:Nat)), .mk (kh P (.ofString "is_true")) (.str (.ofString "is_true") 382) (.ref (93:Nat)), .mk (kh P (.ofString "bounded")) (.str (.ofString "bounded") 389) (.ref (100:Nat)), .mk (kh P (.ofString "added")) (.str (.ofString "added") 398) (.ref (107:Nat)), .mk (kh P (.ofString "compared")) (.str (.ofString "compared") 408) (.ref (114:Nat)), .mk (kh P (.ofString "part_count")) (.str (.ofString "part_count") 418) (.ref (121:Nat)), .mk (kh P (.ofString "are_equal")) (.str (.ofString "are_equal") 426) (.ref (128:Nat)), .mk (kh P (.ofString "two_worth")) (.str (.ofString "two_worth") 435) (.ref (135:Nat)), .mk (kh P (.ofString "one_worth")) (.str (.ofString "one_worth") 443) (.ref (142:Nat)), .mk (kh P (.ofString "goals_behind")) (.str (.ofString "goals_behind") 453) (.ref (149:Nat)), .mk (kh P (.ofString "taken_and_put")) (.str (.ofString "taken_and_put") 461) (.ref (156:Nat)), .mk (kh P (.ofString "is_bounded")) (.str (.ofString "is_bounded") 468) (.ref (163:Nat)), .mk (kh P (.ofString "is_pair")) (.str (.ofString "is_pair") 477) (.ref (170:Nat)), .mk (kh P (.ofString "check_code")) (.str (.ofString "check_code") 483) (.ref (175:Nat)), .mk (kh P (.ofString "show_code")) (.str (.ofString "show_code") 494) (.ref (182:Nat)), .mk (kh P (.ofString "Handler")) (.str (.ofString "Handler") 541) (.ref (213:Nat)), .mk (kh P (.ofString "MOST_FIGURES")) (.str (.ofString "MOST_FIGURES") 545) (.int 160 544), .mk (kh P (.ofString "need")) (.str (.ofString "need") 553) (.ref (224:Nat)), .mk (kh P (.ofString "need_list")) (.str (.ofString "need_list") 560) (.ref (231:Nat)), .mk (kh P (.ofString "need_row")) (.str (.ofString "need_row") 567) (.ref (238:Nat)), .mk (kh P (.ofString "need_number")) (.str (.ofString "need_number") 576) (.ref (245:Nat)), .mk (kh P (.ofString "number_of")) (.str (.ofString "number_of") 586) (.ref (252:Nat)), .mk (kh P (.ofString "text_of")) (.str (.ofString "text_of") 593) (.ref (259:Nat)), .mk (kh P (.ofString "glued")) (.str (.ofString "glued") 602) (.ref (266:Nat)), .mk (kh P (.ofString "turned")) (.str (.ofString "turned") 609) (.ref (273:Nat)), .mk (kh P (.ofString "item_of")) (.str (.ofString "item_of") 617) (.ref (280:Nat)), .mk (kh P (.ofString "cut_of")) (.str (.ofString "cut_of") 626) (.ref (287:Nat)), .mk (kh P (.ofString "end_of")) (.str (.ofString "end_of") 634) (.ref (294:Nat)), .mk (kh P (.ofString "call_of_one")) (.str (.ofString "call_of_one") 642) (.ref (301:Nat)), .mk (kh P (.ofString "applied")) (.str (.ofString "applied") 650) (.ref (308:Nat)), .mk (kh P (.ofString "value_at")) (.str (.ofString "value_at") 658) (.ref (315:Nat)), .mk (kh P (.ofString "controlled")) (.str (.ofString "controlled") 666) (.ref (322:Nat)), .mk (kh P (.ofString "Frame")) (.str (.ofString "Frame") 745) (.ref (374:Nat))] 55) #[]
noncomputable def o_380 (P : Params) : Obj := .mk .none none (.fields (List.toArray (.int 1 0 :: .int 0 0 :: .ref (20:Nat) :: .int 10 0 :: .int 0 0 :: .ref (30:Nat) :: .int 19 0 :: .int 0 0 :: .ref (58:Nat) :: .int 21 0 :: .int 0 0 :: .ref (70:Nat) :: .int 28 0 :: .int 0 0 :: .ref (85:Nat) :: .int 30 0 :: .int 0 0 :: .ref (92:Nat) :: .int 32 0 :: .int 0 0 :: .ref (99:Nat) :: .int 39 0 :: .int 0 0 :: .ref (106:Nat) :: .int 44 0 :: .int 0 0 :: .ref (113:Nat) :: .int 55 0 :: .int 0 0 :: .ref (120:Nat) :: .int 63 0 :: .int 0 0 :: .ref (127:Nat) :: .int 67 0 :: .int 0 0 :: .ref (134:Nat) :: .int 85 0 :: .int 0 0 :: .ref (141:Nat) :: .int 91 0 :: .int 0 0 :: .ref (148:Nat) :: .int 100 0 :: .int 0 0 :: .ref (155:Nat) :: .int 114 0 :: .int 0 0 :: .ref (162:Nat) :: .int 118 0 :: .int 0 0 :: .ref (169:Nat) :: .int 136 0 :: .int 0 0 :: .ref (174:Nat) :: .int 157 0 :: .int 0 0 :: .ref (181:Nat) :: .int 164 0 :: .int 0 0 :: .ref (188:Nat) :: .int 176 0 :: .int 0 0 :: .ref (223:Nat) :: .int 179 0 :: .int 0 0 :: .ref (230:Nat) :: .int 182 0 :: .int 0 0 :: .ref (237:Nat) :: .int 185 0 :: .int 0 0 :: .ref (244:Nat) :: .int 188 0 :: .int 0 0 :: .ref (251:Nat) :: .int 197 0 :: .int 0 0 :: .ref (258:Nat) :: .int 200 0 :: .int 0 0 :: .ref (265:Nat) :: .int 205 0 :: .int 0 0 :: .ref (272:Nat) :: .int 207 0 :: .int 0 0 :: .ref (279:Nat) :: .int 210 0 :: .int 0 0 :: .ref (286:Nat) :: .int 214 0 :: .int 0 0 :: .ref (293:Nat) :: .int 220 0 :: .int 0 0 :: .ref (300:Nat) :: .int 228 0 :: .int 0 0 :: .ref (307:Nat) :: .int 239 0 :: .int 0 0 :: .ref (314:Nat) :: .int 242 0 :: .int 0 0 :: .ref (321:Nat) :: .int 253 0 :: .int 0 0 :: .ref (328:Nat) :: []))) #[]
noncomputable def o_382 (P : Params) : Obj := .mk (.type "builtin_function_or_method") none (.fields #[.builtin "type.__prepare__", .type "type"]) #[]
noncomputable def o_383 (P : Params) : Obj := .mk (.type "dict") none (.dict #[.mk (kh P (.ofString "__module__")) (.str (.ofString "__module__") 674) (.str (.ofString "grammarmill.machine") 542), .mk (kh P (.ofString "__qualname__")) (.str (.ofString "__qualname__") 676) (.str (.ofString "Frame") 675), .mk (kh P (.ofString "__firstlineno__")) (.str (.ofString "__firstlineno__") 678) (.int 253 677), .mk (kh P (.ofString "__init__")) (.str (.ofString "__init__") 690) (.ref (336:Nat)), .mk (kh P (.ofString "count")) (.str (.ofString "count") 697) (.ref (343:Nat)), .mk (kh P (.ofString "push")) (.str (.ofString "push") 705) (.ref (350:Nat)), .mk (kh P (.ofString "pop")) (.str (.ofString "pop") 712) (.ref (357:Nat)), .mk (kh P (.ofString "pop_some")) (.str (.ofString "pop_some") 721) (.ref (364:Nat)), .mk (kh P (.ofString "tell")) (.str (.ofString "tell") 729) (.ref (371:Nat)), .mk (kh P (.ofString "__static_attributes__")) (.str (.ofString "__static_attributes__") 738) (.ref (372:Nat))] 10) #[]
noncomputable def o_385 (P : Params) : Obj := .mk .none none (.fields #[.int 255 0, .int 4 0, .ref (335:Nat), .int 265 0, .int 4 0, .ref (342:Nat), .int 269 0, .int 4 0, .ref (349:Nat), .int 272 0, .int 4 0, .ref (356:Nat), .int 276 0, .int 4 0, .ref (363:Nat), .int 282 0, .int 4 0, .ref (370:Nat)]) #[]
noncomputable def o_386 (P : Params) : Obj := .mk (.type "code") none (.fields #[.str (.ofString "Frame") 669, .str (.ofString "Frame") 670, .str (.ofString "/claim/cut.py") 671, .int 253 0, .int 0 0, .int 0 0, .int 0 0, .int 0 0, .ref (326:Nat), .bool false, .int 181 0, .ref (327:Nat), .none, .none, .none, .none, .int 672 0, .int 253 0, .str (.ofString "/claim/cut.py") 673]) #[]
noncomputable def o_387 (P : Params) : Obj := .mk (.type "frame") none .plain #[some (.ref (328:Nat)), some (.ref (3:Nat)), some (.ref (325:Nat)), none, some (.str (.ofString "grammarmill.machine") 542), none, some (.ref (0:Nat))]
noncomputable def o_389 (P : Params) : Obj := .mk .none none (.fields #[]) #[]
noncomputable def o_392 (P : Params) : Obj := .mk .none none (.func (.mk (.ofString "__init__") (.ofString "Frame.__init__") (fd P 336).params (fd P 336).body (fd P 336).scope 0 [] .none .none .none .none none .none .none 0)) #[]
noncomputable def o_396 (P : Params) : Obj := .mk .none none (.fields #[]) #[]
noncomputable def o_399 (P : Params) : Obj := .mk .none none (.func (.mk (.ofString "count") (.ofString "Frame.count") (fd P 343).params (fd P 343).body (fd P 343).scope 0 [] .none .none .none .none none .none .none 0)) #[]
noncomputable def o_403 (P : Params) : Obj := .mk .none none (.fields #[]) #[]
noncomputable def o_406 (P : Params) : Obj := .mk .none none (.func (.mk (.ofString "push") (.ofString "Frame.push") (fd P 350).params (fd P 350).body (fd P 350).scope 0 [] .none .none .none .none none .none .none 0)) #[]
noncomputable def o_410 (P : Params) : Obj := .mk .none none (.fields #[]) #[]
noncomputable def o_413 (P : Params) : Obj := .mk .none none (.func (.mk (.ofString "pop") (.ofString "Frame.pop") (fd P 357).params (fd P 357).body (fd P 343).scope 0 [] .none .none .none .none none .none .none 0)) #[]
noncomputable def o_417 (P : Params) : Obj := .mk .none none (.fields #[]) #[]
noncomputable def o_420 (P : Params) : Obj := .mk .none none (.func (.mk (.ofString "pop_some") (.ofString "Frame.pop_some") (fd P 364).params (fd P 364).body (fd P 364).scope 0 [] .none .none .none .none none .none .none 0)) #[]
noncomputable def o_424 (P : Params) : Obj := .mk .none none (.fields #[]) #[]
noncomputable def o_427 (P : Params) : Obj := .mk .none none (.func (.mk (.ofString "tell") (.ofString "Frame.tell") (fd P 371).params (fd P 371).body (fd P 371).scope 0 [] .none .none .none .none none .none .none 0)) #[]
noncomputable def o_435 (P : Params) : Obj := .mk (.type "super") none (.fields #[.ref (374:Nat), .ref (374:Nat), .ref (374:Nat)]) #[]
noncomputable def o_436 (P : Params) : Obj := .mk (.type "builtin_function_or_method") none (.fields #[.builtin "object.__init_subclass__", .ref (374:Nat)]) #[]
noncomputable def o_437 (P : Params) : Obj := .mk (.type "dict") none (.dict #[.mk (kh P (.ofString "__name__")) (.str (.ofString "__name__") 165) (.str (.ofString "grammarmill.machine") 542), .mk (kh P (.ofString "__doc__")) (.str (.ofString "__doc__") 166) .none, .mk (kh P (.ofString "__package__")) (.str (.ofString "__package__") 167) .none, .mk (kh P (.ofString "__loader__")) (.str (.ofString "__loader__") 168) (.builtin "__main__.__loader__#opaque"), .mk (kh P (.ofString "__spec__")) (.str (.ofString "__spec__") 169) .none, .mk (kh P (.ofString "__annotations__")) (.str (.ofString "__annotations__") 170) (.ref (6:Nat)), .mk (kh P (.ofString "__builtins__")) (.str (.ofString "__builtins__") 171) (.ref (4:Nat)), .mk (kh P (.ofString "__file__")) (.str (.ofString "__file__") 173) (.str (.ofString "/claim/cut.py") 172), .mk (kh P (.ofString "__cached__")) (.str (.ofString "__cached__") 174) .none, .mk (kh P (.ofString "_wall")) (.str (.ofString "_wall") 193) (.ref (21:Nat)), .mk (kh P (.ofString "WORDS")) (.str (.ofString "WORDS") 199) (.ref (22:Nat)), .mk (kh P (.ofString "LEVELS")) (.str (.ofString "LEVELS") 239) (.ref (23:Nat)), .mk (kh P (.ofString "FUNCTIONS")) (.str (.ofString "FUNCTIONS") 273) (.ref (24:Nat)), .mk (kh P (.ofString "MOST_BITS")) (.str (.ofString "MOST_BITS") 275) (.int 512 274), .mk (kh P (.ofString "MOST_SIZE")) (.str (.ofString "MOST_SIZE") 277) (.int 2000 276), .mk (kh P (.ofString "ToolError")) (.str (.ofString "ToolError") 317) (.ref (49:Nat)), .mk (kh P (.ofString "ActionError")) (.str (.ofString "ActionError") 333) (.ref (62:Nat)), .mk (kh P (.ofString "MachineError")) (.str (.ofString "MachineError") 349) (.ref (74:Nat)), .mk (kh P (.ofString "LEAVING")) (.str (.ofString "LEAVING") 355) (.ref (77:Nat)), .mk (kh P (.ofString "COMPARISONS")) (.str (.ofString "COMPARISONS") 362) (.ref (78:Nat)), .mk (kh P (.ofString "JUMPS")) (.str (.ofString "JUMPS") 366) (.ref (79:Nat)), .mk (kh P (.ofString "MOST_PARTS")) (.str (.ofString "MOST_PARTS") 368) (.int 300 367), .mk (kh P (.ofString "is_number")) (.str (.ofString "is_number") 375) (.ref (86:Nat)), .mk (kh P (.ofString "is_true")) (.str (.ofString "is_true") 382) (.ref (93:Nat)), .mk (kh P (.ofString "bounded")) (.str (.ofString "bounded") 389) (.ref (100:Nat)), .mk (kh P (.ofString "added")) (.str (.ofString "added") 398) (.ref (107:Nat)), .mk (kh P (.ofString "compared")) (.str (.ofString "compared") 408) (.ref (114:Nat)), .mk (kh P (.ofString "part_count")) (.str (.ofString "part_count") 418) (.ref (121:Nat)), .mk (kh P (.ofString "are_equal")) (.str (.ofString "are_equal") 426) (.ref (128:Nat)), .mk (kh P (.ofString "two_worth")) (.str (.ofString "two_worth") 435) (.ref (135:Nat)), .mk (kh P (.ofString "one_worth")) (.str (.ofString "one_worth") 443) (.ref (142:Nat)), .mk (kh P (.ofString "goals_behind")) (.str (.ofString "goals_behind") 453) (.ref (149:Nat)), .mk (kh P (.ofString "taken_and_put")) (.str (.ofString "taken_and_put") 461) (.ref (156:Nat)), .mk (kh P (.ofString "is_bounded")) (.str (.ofString "is_bounded") 468) (.ref (163:Nat)), .mk (kh P (.ofString "is_pair")) (.str (.ofString "is_pair") 477) (.ref (170:Nat)), .mk (kh P (.ofString "check_code")) (.str (.ofString "check_code") 483) (.ref (175:Nat)), .mk (kh P (.ofString "show_code")) (.str (.ofString "show_code") 494) (.ref (182:Nat)), .mk (kh P (.ofString "Handler")) (.str (.ofString "Handler") 541) (.ref (213:Nat)), .mk (kh P (.ofString "MOST_FIGURES")) (.str (.ofString "MOST_FIGURES") 545) (.int 160 544), .mk (kh P (.ofString "need")) (.str (.ofString "need") 553) (.ref (224:Nat)), .mk (kh P (.ofString "need_list")) (.str (.ofString "need_list") 560) (.ref (231:Nat)), .mk (kh P (.ofString "need_row")) (.str (.ofString "need_row") 567) (.ref (238:Nat)), .mk (kh P (.ofString "need_number")) (.str (.ofString "need_number") 576) (.ref (245:Nat)), .mk (kh P (.ofString "number_of")) (.str (.ofString "number_of") 586) (.ref (252:Nat)), .mk (kh P (.ofString "text_of")) (.str (.ofString "text_of") 593) (.ref (259:Nat)), .mk (kh P (.ofString "glued")) (.str (.ofString "glued") 602) (.ref (266:Nat)), .mk (kh P (.ofString "turned")) (.str (.ofString "turned") 609) (.ref (273:Nat)), .mk (kh P (.ofString "item_of")) (.str (.ofString "item_of") 617) (.ref (280:Nat)), .mk (kh P (.ofString "cut_of")) (.str (.ofString "cut_of") 626) (.ref (287:Nat)), .mk (kh P (.ofString "end_of")) (.str (.ofString "end_of") 634) (.ref (294:Nat)), .mk (kh P (.ofString "call_of_one")) (.str (.ofString "call_of_one") 642) (.ref (301:Nat)), .mk (kh P (.ofString "applied")) (.str (.ofString "applied") 650) (.ref (308:Nat)), .mk (kh P (.ofString "value_at")) (.str (.ofString "value_at") 658) (.ref (315:Nat)), .mk (kh P (.ofString "controlled")) (.str (.ofString "controlled") 666) (.ref (322:Nat)), .mk (kh P (.ofString "Frame")) (.str (.ofString "Frame") 745) (.ref (374:Nat)), .mk (kh P (.ofString "Machine")) (.str (.ofString "Machine") 859) (.ref (450:Nat))] 56) #[]
noncomputable def o_438 (P : Params) : Obj := .mk .none none (.fields (List.toArray (.int 1 0 :: .int 0 0 :: .ref (20:Nat) :: .int 10 0 :: .int 0 0 :: .ref (30:Nat) :: .int 19 0 :: .int 0 0 :: .ref (58:Nat) :: .int 21 0 :: .int 0 0 :: .ref (70:Nat) :: .int 28 0 :: .int 0 0 :: .ref (85:Nat) :: .int 30 0 :: .int 0 0 :: .ref (92:Nat) :: .int 32 0 :: .int 0 0 :: .ref (99:Nat) :: .int 39 0 :: .int 0 0 :: .ref (106:Nat) :: .int 44 0 :: .int 0 0 :: .ref (113:Nat) :: .int 55 0 :: .int 0 0 :: .ref (120:Nat) :: .int 63 0 :: .int 0 0 :: .ref (127:Nat) :: .int 67 0 :: .int 0 0 :: .ref (134:Nat) :: .int 85 0 :: .int 0 0 :: .ref (141:Nat) :: .int 91 0 :: .int 0 0 :: .ref (148:Nat) :: .int 100 0 :: .int 0 0 :: .ref (155:Nat) :: .int 114 0 :: .int 0 0 :: .ref (162:Nat) :: .int 118 0 :: .int 0 0 :: .ref (169:Nat) :: .int 136 0 :: .int 0 0 :: .ref (174:Nat) :: .int 157 0 :: .int 0 0 :: .ref (181:Nat) :: .int 164 0 :: .int 0 0 :: .ref (188:Nat) :: .int 176 0 :: .int 0 0 :: .ref (223:Nat) :: .int 179 0 :: .int 0 0 :: .ref (230:Nat) :: .int 182 0 :: .int 0 0 :: .ref (237:Nat) :: .int 185 0 :: .int 0 0 :: .ref (244:Nat) :: .int 188 0 :: .int 0 0 :: .ref (251:Nat) :: .int 197 0 :: .int 0 0 :: .ref (258:Nat) :: .int 200 0 :: .int 0 0 :: .ref (265:Nat) :: .int 205 0 :: .int 0 0 :: .ref (272:Nat) :: .int 207 0 :: .int 0 0 :: .ref (279:Nat) :: .int 210 0 :: .int 0 0 :: .ref (286:Nat) :: .int 214 0 :: .int 0 0 :: .ref (293:Nat) :: .int 220 0 :: .int 0 0 :: .ref (300:Nat) :: .int 228 0 :: .int 0 0 :: .ref (307:Nat) :: .int 239 0 :: .int 0 0 :: .ref (314:Nat) :: .int 242 0 :: .int 0 0 :: .ref (321:Nat) :: .int 253 0 :: .int 0 0 :: .ref (328:Nat) :: .int 286 0 :: .int 0 0 :: .ref (384:Nat) :: []))) #[]
noncomputable def o_440 (P : Params) : Obj := .mk (.type "builtin_function_or_method") none (.fields #[.builtin "type.__prepare__", .type "type"]) #[]
noncomputable def o_441 (P : Params) : Obj := .mk (.type "dict") none (.dict #[.mk (kh P (.ofString "__module__")) (.str (.ofString "__module__") 753) (.str (.ofString "grammarmill.machine") 542), .mk (kh P (.ofString "__qualname__")) (.str (.ofString "__qualname__") 755) (.str (.ofString "Machine") 754), .mk (kh P (.ofString "__firstlineno__")) (.str (.ofString "__firstlineno__") 757) (.int 286 756), .mk (kh P (.ofString "__init__")) (.str (.ofString "__init__") 766) (.ref (393:Nat)), .mk (kh P (.ofString "run")) (.str (.ofString "run") 782) (.ref (400:Nat)), .mk (kh P (.ofString "jumped")) (.str (.ofString "jumped") 793) (.ref (407:Nat)), .mk (kh P (.ofString "step")) (.str (.ofString "step") 804) (.ref (414:Nat)), .mk (kh P (.ofString "store")) (.str (.ofString "store") 814) (.ref (421:Nat)), .mk (kh P (.ofString "evaluate")) (.str (.ofString "evaluate") 826) (.ref (428:Nat)), .mk (kh P (.ofString "statements")) (.str (.ofString "statements") 835) (.ref (435:Nat)), .mk (kh P (.ofString "statement")) (.str (.ofString "statement") 844) (.ref (442:Nat)), .mk (kh P (.ofString "value")) (.str (.ofString "value") 850) (.ref (447:Nat)), .mk (kh P (.ofString "__static_attributes__")) (.str (.ofString "__static_attributes__") 852) (.ref (448:Nat))] 13) #[]
noncomputable def o_443 (P : Params) : Obj := .mk .none none (.fields #[.int 288 0, .int 4 0, .ref (392:Nat), .int 291 0, .int 4 0, .ref (399:Nat), .int 300 0, .int 4 0, .ref (406:Nat), .int 305 0, .int 4 0, .ref (413:Nat), .int 328 0, .int 4 0, .ref (420:Nat), .int 340 0, .int 4 0, .ref (427:Nat), .int 343 0, .int 4 0, .ref (434:Nat), .int 346 0, .int 4 0, .ref (441:Nat), .int 349 0, .int 4 0, .ref (446:Nat)]) #[]
noncomputable def o_444 (P : Params) : Obj := .mk (.type "code") none (.fields #[.str (.ofString "Machine") 748, .str (.ofString "Machine") 749, .str (.ofString "/claim/cut.py") 750, .int 286 0, .int 0 0, .int 0 0, .int 0 0, .int 0 0, .ref (382:Nat), .bool false, .int 181 0, .ref (383:Nat), .none, .none, .none, .none, .int 751 0, .int 286 0, .str (.ofString "/claim/cut.py") 752]) #[]
noncomputable def o_445 (P : Params) : Obj := .mk (.type "frame") none .plain #[some (.ref (384:Nat)), some (.ref (3:Nat)), some (.ref (381:Nat)), none, some (.str (.ofString "grammarmill.machine") 542), none, some (.ref (0:Nat))]
noncomputable def o_448 (P : Params) : Obj := .mk .none none (.fields #[]) #[]
noncomputable def o_451 (P : Params) : Obj := .mk .none none (.func (.mk (.ofString "__init__") (.ofString "Machine.__init__") (fd P 393).params (fd P 393).body (fd P 393).scope 0 [] .none .none .none .none none .none .none 0)) #[]
noncomputable def o_455 (P : Params) : Obj := .mk .none none (.fields #[]) #[]
noncomputable def o_458 (P : Params) : Obj := .mk .none none (.func (.mk (.ofString "run") (.ofString "Machine.run") (fd P 400).params (fd P 400).body (fd P 400).scope 0 [] .none .none .none .none none .none .none 0)) #[]
noncomputable def o_462 (P : Params) : Obj := .mk .none none (.fields #[]) #[]
noncomputable def o_465 (P : Params) : Obj := .mk .none none (.func (.mk (.ofString "jumped") (.ofString "Machine.jumped") (fd P 407).params (fd P 407).body (fd P 407).scope 0 [] .none .none .none .none none .none .none 0)) #[]
noncomputable def o_469 (P : Params) : Obj := .mk .none none (.fields #[]) #[]
noncomputable def o_472 (P : Params) : Obj := .mk .none none (.func (.mk (.ofString "step") (.ofString "Machine.step") (fd P 414).params (fd P 414).body (fd P 414).scope 0 [] .none .none .none .none none .none .none 0)) #[]
noncomputable def o_476 (P : Params) : Obj := .mk .none none (.fields #[]) #[]
noncomputable def o_479 (P : Params) : Obj := .mk .none none (.func (.mk (.ofString "store") (.ofString "Machine.store") (fd P 421).params (fd P 421).body (fd P 421).scope 0 [] .none .none .none .none none .none .none 0)) #[]
noncomputable def o_483 (P : Params) : Obj := .mk .none none (.fields #[]) #[]
noncomputable def o_486 (P : Params) : Obj := .mk .none none (.func (.mk (.ofString "evaluate") (.ofString "Machine.evaluate") (fd P 428).params (fd P 428).body (fd P 428).scope 0 [] .none .none .none .none none .none .none 0)) #[]
noncomputable def o_490 (P : Params) : Obj := .mk .none none (.fields #[]) #[]
noncomputable def o_493 (P : Params) : Obj := .mk .none none (.func (.mk (.ofString "statements") (.ofString "Machine.statements") (fd P 435).params (fd P 435).body (fd P 435).scope 0 [] .none .none .none .none none .none .none 0)) #[]
noncomputable def o_497 (P : Params) : Obj := .mk .none none (.fields #[]) #[]
noncomputable def o_500 (P : Params) : Obj := .mk .none none (.func (.mk (.ofString "statement") (.ofString "Machine.statement") (fd P 442).params (fd P 442).body (fd P 442).scope 0 [] .none .none .none .none none .none .none 0)) #[]
noncomputable def o_504 (P : Params) : Obj := .mk .none none (.fields #[]) #[]
noncomputable def o_505 (P : Params) : Obj := .mk .none none (.func (.mk (.ofString "value") (.ofString "Machine.value") (fd P 447).params (fd P 447).body (fd P 447).scope 0 [] .none .none .none .none none .none .none 0)) #[]
noncomputable def o_513 (P : Params) : Obj := .mk (.type "super") none (.fields #[.ref (450:Nat), .ref (450:Nat), .ref (450:Nat)]) #[]
noncomputable def o_514 (P : Params) : Obj := .mk (.type "builtin_function_or_method") none (.fields #[.builtin "object.__init_subclass__", .ref (450:Nat)]) #[]
noncomputable def o_515 (P : Params) : Obj := .mk (.type "dict") none (.dict #[.mk (kh P (.ofString "__name__")) (.str (.ofString "__name__") 165) (.str (.ofString "law_qd0067_01") 907), .mk (kh P (.ofString "__doc__")) (.str (.ofString "__doc__") 166) .none, .mk (kh P (.ofString "__package__")) (.str (.ofString "__package__") 167) .none, .mk (kh P (.ofString "__loader__")) (.str (.ofString "__loader__") 168) (.builtin "__main__.__loader__#opaque"), .mk (kh P (.ofString "__spec__")) (.str (.ofString "__spec__") 169) .none, .mk (kh P (.ofString "__annotations__")) (.str (.ofString "__annotations__") 170) (.ref (6:Nat)), .mk (kh P (.ofString "__builtins__")) (.str (.ofString "__builtins__") 171) (.ref (4:Nat)), .mk (kh P (.ofString "__file__")) (.str (.ofString "__file__") 173) (.str (.ofString "/claim/cut.py") 172), .mk (kh P (.ofString "__cached__")) (.str (.ofString "__cached__") 174) .none, .mk (kh P (.ofString "_wall")) (.str (.ofString "_wall") 193) (.ref (21:Nat)), .mk (kh P (.ofString "WORDS")) (.str (.ofString "WORDS") 199) (.ref (22:Nat)), .mk (kh P (.ofString "LEVELS")) (.str (.ofString "LEVELS") 239) (.ref (23:Nat)), .mk (kh P (.ofString "FUNCTIONS")) (.str (.ofString "FUNCTIONS") 273) (.ref (24:Nat)), .mk (kh P (.ofString "MOST_BITS")) (.str (.ofString "MOST_BITS") 275) (.int 512 274), .mk (kh P (.ofString "MOST_SIZE")) (.str (.ofString "MOST_SIZE") 277) (.int 2000 276), .mk (kh P (.ofString "ToolError")) (.str (.ofString "ToolError") 317) (.ref (49:Nat)), .mk (kh P (.ofString "ActionError")) (.str (.ofString "ActionError") 333) (.ref (62:Nat)), .mk (kh P (.ofString "MachineError")) (.str (.ofString "MachineError") 349) (.ref (74:Nat)), .mk (kh P (.ofString "LEAVING")) (.str (.ofString "LEAVING") 355) (.ref (77:Nat)), .mk (kh P (.ofString "COMPARISONS")) (.str (.ofString "COMPARISONS") 362) (.ref (78:Nat)), .mk (kh P (.ofString "JUMPS")) (.str (.ofString "JUMPS") 366) (.ref (79:Nat)), .mk (kh P (.ofString "MOST_PARTS")) (.str (.ofString "MOST_PARTS") 368) (.int 300 367), .mk (kh P (.ofString "is_number")) (.str (.ofString "is_number") 375) (.ref (86:Nat)), .mk (kh P (.ofString "is_true")) (.str (.ofString "is_true") 382) (.ref (93:Nat)), .mk (kh P (.ofString "bounded")) (.str (.ofString "bounded") 389) (.ref (100:Nat)), .mk (kh P (.ofString "added")) (.str (.ofString "added") 398) (.ref (107:Nat)), .mk (kh P (.ofString "compared")) (.str (.ofString "compared") 408) (.ref (114:Nat)), .mk (kh P (.ofString "part_count")) (.str (.ofString "part_count") 418) (.ref (121:Nat)), .mk (kh P (.ofString "are_equal")) (.str (.ofString "are_equal") 426) (.ref (128:Nat)), .mk (kh P (.ofString "two_worth")) (.str (.ofString "two_worth") 435) (.ref (135:Nat)), .mk (kh P (.ofString "one_worth")) (.str (.ofString "one_worth") 443) (.ref (142:Nat)), .mk (kh P (.ofString "goals_behind")) (.str (.ofString "goals_behind") 453) (.ref (149:Nat)), .mk (kh P (.ofString "taken_and_put")) (.str (.ofString "taken_and_put") 461) (.ref (156:Nat)), .mk (kh P (.ofString "is_bounded")) (.str (.ofString "is_bounded") 468) (.ref (163:Nat)), .mk (kh P (.ofString "is_pair")) (.str (.ofString "is_pair") 477) (.ref (170:Nat)), .mk (kh P (.ofString "check_code")) (.str (.ofString "check_code") 483) (.ref (175:Nat)), .mk (kh P (.ofString "show_code")) (.str (.ofString "show_code") 494) (.ref (182:Nat)), .mk (kh P (.ofString "Handler")) (.str (.ofString "Handler") 541) (.ref (213:Nat)), .mk (kh P (.ofString "MOST_FIGURES")) (.str (.ofString "MOST_FIGURES") 545) (.int 160 544), .mk (kh P (.ofString "need")) (.str (.ofString "need") 553) (.ref (224:Nat)), .mk (kh P (.ofString "need_list")) (.str (.ofString "need_list") 560) (.ref (231:Nat)), .mk (kh P (.ofString "need_row")) (.str (.ofString "need_row") 567) (.ref (238:Nat)), .mk (kh P (.ofString "need_number")) (.str (.ofString "need_number") 576) (.ref (245:Nat)), .mk (kh P (.ofString "number_of")) (.str (.ofString "number_of") 586) (.ref (252:Nat)), .mk (kh P (.ofString "text_of")) (.str (.ofString "text_of") 593) (.ref (259:Nat)), .mk (kh P (.ofString "glued")) (.str (.ofString "glued") 602) (.ref (266:Nat)), .mk (kh P (.ofString "turned")) (.str (.ofString "turned") 609) (.ref (273:Nat)), .mk (kh P (.ofString "item_of")) (.str (.ofString "item_of") 617) (.ref (280:Nat)), .mk (kh P (.ofString "cut_of")) (.str (.ofString "cut_of") 626) (.ref (287:Nat)), .mk (kh P (.ofString "end_of")) (.str (.ofString "end_of") 634) (.ref (294:Nat)), .mk (kh P (.ofString "call_of_one")) (.str (.ofString "call_of_one") 642) (.ref (301:Nat)), .mk (kh P (.ofString "applied")) (.str (.ofString "applied") 650) (.ref (308:Nat)), .mk (kh P (.ofString "value_at")) (.str (.ofString "value_at") 658) (.ref (315:Nat)), .mk (kh P (.ofString "controlled")) (.str (.ofString "controlled") 666) (.ref (322:Nat)), .mk (kh P (.ofString "Frame")) (.str (.ofString "Frame") 745) (.ref (374:Nat)), .mk (kh P (.ofString "Machine")) (.str (.ofString "Machine") 859) (.ref (450:Nat)), .mk (kh P (.ofString "CodeHandler")) (.str (.ofString "CodeHandler") 898) (.ref (479:Nat)), .mk (kh P (.ofString "handler_from_codes")) (.str (.ofString "handler_from_codes") 906) (.ref (488:Nat)), .mk (kh P (.ofString "_law_BOUND")) (.str (.ofString "_law_BOUND") 914) (.ref (495:Nat)), .mk (kh P (.ofString "_law_pen")) (.str (.ofString "_law_pen") 923) (.ref (502:Nat))] 60) #[]
noncomputable def o_516 (P : Params) : Obj := .mk .none none (.fields (List.toArray (.int 1 0 :: .int 0 0 :: .ref (20:Nat) :: .int 10 0 :: .int 0 0 :: .ref (30:Nat) :: .int 19 0 :: .int 0 0 :: .ref (58:Nat) :: .int 21 0 :: .int 0 0 :: .ref (70:Nat) :: .int 28 0 :: .int 0 0 :: .ref (85:Nat) :: .int 30 0 :: .int 0 0 :: .ref (92:Nat) :: .int 32 0 :: .int 0 0 :: .ref (99:Nat) :: .int 39 0 :: .int 0 0 :: .ref (106:Nat) :: .int 44 0 :: .int 0 0 :: .ref (113:Nat) :: .int 55 0 :: .int 0 0 :: .ref (120:Nat) :: .int 63 0 :: .int 0 0 :: .ref (127:Nat) :: .int 67 0 :: .int 0 0 :: .ref (134:Nat) :: .int 85 0 :: .int 0 0 :: .ref (141:Nat) :: .int 91 0 :: .int 0 0 :: .ref (148:Nat) :: .int 100 0 :: .int 0 0 :: .ref (155:Nat) :: .int 114 0 :: .int 0 0 :: .ref (162:Nat) :: .int 118 0 :: .int 0 0 :: .ref (169:Nat) :: .int 136 0 :: .int 0 0 :: .ref (174:Nat) :: .int 157 0 :: .int 0 0 :: .ref (181:Nat) :: .int 164 0 :: .int 0 0 :: .ref (188:Nat) :: .int 176 0 :: .int 0 0 :: .ref (223:Nat) :: .int 179 0 :: .int 0 0 :: .ref (230:Nat) :: .int 182 0 :: .int 0 0 :: .ref (237:Nat) :: .int 185 0 :: .int 0 0 :: .ref (244:Nat) :: .int 188 0 :: .int 0 0 :: .ref (251:Nat) :: .int 197 0 :: .int 0 0 :: .ref (258:Nat) :: .int 200 0 :: .int 0 0 :: .ref (265:Nat) :: .int 205 0 :: .int 0 0 :: .ref (272:Nat) :: .int 207 0 :: .int 0 0 :: .ref (279:Nat) :: .int 210 0 :: .int 0 0 :: .ref (286:Nat) :: .int 214 0 :: .int 0 0 :: .ref (293:Nat) :: .int 220 0 :: .int 0 0 :: .ref (300:Nat) :: .int 228 0 :: .int 0 0 :: .ref (307:Nat) :: .int 239 0 :: .int 0 0 :: .ref (314:Nat) :: .int 242 0 :: .int 0 0 :: .ref (321:Nat) :: .int 253 0 :: .int 0 0 :: .ref (328:Nat) :: .int 286 0 :: .int 0 0 :: .ref (384:Nat) :: .int 373 0 :: .int 0 0 :: .ref (460:Nat) :: .int 382 0 :: .int 0 0 :: .ref (487:Nat) :: .int 388 0 :: .int 0 0 :: .ref (494:Nat) :: .int 390 0 :: .int 0 0 :: .ref (501:Nat) :: []))) #[]
noncomputable def o_519 (P : Params) : Obj := .mk (.type "builtin_function_or_method") none (.fields #[.builtin "type.__prepare__", .type "type"]) #[]
noncomputable def o_520 (P : Params) : Obj := .mk (.type "dict") none (.dict #[.mk (kh P (.ofString "__module__")) (.str (.ofString "__module__") 867) (.str (.ofString "grammarmill.machine") 542), .mk (kh P (.ofString "__qualname__")) (.str (.ofString "__qualname__") 869) (.str (.ofString "CodeHandler") 868), .mk (kh P (.ofString "__firstlineno__")) (.str (.ofString "__firstlineno__") 871) (.int 373 870), .mk (kh P (.ofString "__init__")) (.str (.ofString "__init__") 881) (.ref (469:Nat)), .mk (kh P (.ofString "reduce")) (.str (.ofString "reduce") 891) (.ref (476:Nat)), .mk (kh P (.ofString "__static_attributes__")) (.str (.ofString "__static_attributes__") 895) (.ref (477:Nat))] 6) #[]
noncomputable def o_522 (P : Params) : Obj := .mk .none none (.fields #[.int 375 0, .int 4 0, .ref (468:Nat), .int 380 0, .int 4 0, .ref (475:Nat)]) #[]
noncomputable def o_523 (P : Params) : Obj := .mk (.type "code") none (.fields #[.str (.ofString "CodeHandler") 862, .str (.ofString "CodeHandler") 863, .str (.ofString "/claim/cut.py") 864, .int 373 0, .int 0 0, .int 0 0, .int 0 0, .int 0 0, .ref (458:Nat), .bool false, .int 181 0, .ref (459:Nat), .none, .none, .none, .none, .int 865 0, .int 373 0, .str (.ofString "/claim/cut.py") 866]) #[]
noncomputable def o_524 (P : Params) : Obj := .mk (.type "frame") none .plain #[some (.ref (460:Nat)), some (.ref (3:Nat)), some (.ref (457:Nat)), none, some (.str (.ofString "grammarmill.machine") 542), none, some (.ref (0:Nat))]
noncomputable def o_527 (P : Params) : Obj := .mk .none none (.fields #[]) #[]
noncomputable def o_530 (P : Params) : Obj := .mk .none none (.func (.mk (.ofString "__init__") (.ofString "CodeHandler.__init__") (fd P 469).params (fd P 469).body (fd P 469).scope 0 [] .none .none .none .none none .none .none 0)) #[]
noncomputable def o_534 (P : Params) : Obj := .mk .none none (.fields #[]) #[]
noncomputable def o_537 (P : Params) : Obj := .mk .none none (.func (.mk (.ofString "reduce") (.ofString "CodeHandler.reduce") (fd P 476).params (fd P 476).body (fd P 203).scope 0 [] .none .none .none .none none .none .none 0)) #[]
noncomputable def o_543 (P : Params) : Obj := .mk (.type "super") none (.fields #[.ref (479:Nat), .ref (479:Nat), .ref (479:Nat)]) #[]
noncomputable def o_544 (P : Params) : Obj := .mk (.type "builtin_function_or_method") none (.fields #[.builtin "object.__init_subclass__", .ref (479:Nat)]) #[]
noncomputable def o_546 (P : Params) : Obj := .mk .none none (.fields #[]) #[]
noncomputable def o_549 (P : Params) : Obj := .mk .none none (.func (.mk (.ofString "handler_from_codes") (.ofString "handler_from_codes") (fd P 488).params (fd P 488).body (fd P 488).scope 0 [] .none .none .none .none none .none .none 0)) #[]
noncomputable def o_553 (P : Params) : Obj := .mk .none none (.fields #[]) #[]
noncomputable def o_556 (P : Params) : Obj := .mk .none none (.func (.mk (.ofString "_law_BOUND") (.ofString "_law_BOUND") (fd P 495).params (fd P 495).body (fd P 495).scope 0 [] .none .none .none .none none .none .none 0)) #[]
noncomputable def o_560 (P : Params) : Obj := .mk .none none (.fields #[]) #[]
noncomputable def o_563 (P : Params) : Obj := .mk .none none (.func (.mk (.ofString "_law_pen") (.ofString "_law_pen") (fd P 502).params (fd P 502).body (fd P 502).scope 0 [] .none .none .none .none none .none .none 0)) #[]
noncomputable def o_567 (P : Params) : Obj := .mk .none none (.fields (List.toArray (.int 1 0 :: .int 0 0 :: .ref (20:Nat) :: .int 10 0 :: .int 0 0 :: .ref (30:Nat) :: .int 19 0 :: .int 0 0 :: .ref (58:Nat) :: .int 21 0 :: .int 0 0 :: .ref (70:Nat) :: .int 28 0 :: .int 0 0 :: .ref (85:Nat) :: .int 30 0 :: .int 0 0 :: .ref (92:Nat) :: .int 32 0 :: .int 0 0 :: .ref (99:Nat) :: .int 39 0 :: .int 0 0 :: .ref (106:Nat) :: .int 44 0 :: .int 0 0 :: .ref (113:Nat) :: .int 55 0 :: .int 0 0 :: .ref (120:Nat) :: .int 63 0 :: .int 0 0 :: .ref (127:Nat) :: .int 67 0 :: .int 0 0 :: .ref (134:Nat) :: .int 85 0 :: .int 0 0 :: .ref (141:Nat) :: .int 91 0 :: .int 0 0 :: .ref (148:Nat) :: .int 100 0 :: .int 0 0 :: .ref (155:Nat) :: .int 114 0 :: .int 0 0 :: .ref (162:Nat) :: .int 118 0 :: .int 0 0 :: .ref (169:Nat) :: .int 136 0 :: .int 0 0 :: .ref (174:Nat) :: .int 157 0 :: .int 0 0 :: .ref (181:Nat) :: .int 164 0 :: .int 0 0 :: .ref (188:Nat) :: .int 176 0 :: .int 0 0 :: .ref (223:Nat) :: .int 179 0 :: .int 0 0 :: .ref (230:Nat) :: .int 182 0 :: .int 0 0 :: .ref (237:Nat) :: .int 185 0 :: .int 0 0 :: .ref (244:Nat) :: .int 188 0 :: .int 0 0 :: .ref (251:Nat) :: .int 197 0 :: .int 0 0 :: .ref (258:Nat) :: .int 200 0 :: .int 0 0 :: .ref (265:Nat) :: .int 205 0 :: .int 0 0 :: .ref (272:Nat) :: .int 207 0 :: .int 0 0 :: .ref (279:Nat) :: .int 210 0 :: .int 0 0 :: .ref (286:Nat) :: .int 214 0 :: .int 0 0 :: .ref (293:Nat) :: .int 220 0 :: .int 0 0 :: .ref (300:Nat) :: .int 228 0 :: .int 0 0 :: .ref (307:Nat) :: .int 239 0 :: .int 0 0 :: .ref (314:Nat) :: .int 242 0 :: .int 0 0 :: .ref (321:Nat) :: .int 253 0 :: .int 0 0 :: .ref (328:Nat) :: .int 286 0 :: .int 0 0 :: .ref (384:Nat) :: .int 373 0 :: .int 0 0 :: .ref (460:Nat) :: .int 382 0 :: .int 0 0 :: .ref (487:Nat) :: .int 388 0 :: .int 0 0 :: .ref (494:Nat) :: .int 390 0 :: .int 0 0 :: .ref (501:Nat) :: .int 395 0 :: .int 0 0 :: .ref (508:Nat) :: .int 402 0 :: .int 0 0 :: .ref (515:Nat) :: .int 408 0 :: .int 0 0 :: .ref (522:Nat) :: .int 413 0 :: .int 0 0 :: .ref (527:Nat) :: .int 433 0 :: .int 0 0 :: .ref (534:Nat) :: []))) #[]
noncomputable def o_569 (P : Params) : Obj := .mk .none none (.fields #[]) #[]
noncomputable def o_572 (P : Params) : Obj := .mk .none none (.func (.mk (.ofString "_law_draw") (.ofString "_law_draw") (fd P 509).params (fd P 509).body (fd P 509).scope 0 [] .none .none .none .none none .none .none 0)) #[]
noncomputable def o_576 (P : Params) : Obj := .mk .none none (.fields #[]) #[]
noncomputable def o_579 (P : Params) : Obj := .mk .none none (.func (.mk (.ofString "_law_is_let") (.ofString "_law_is_let") (fd P 516).params (fd P 516).body (fd P 516).scope 0 [] .none .none .none .none none .none .none 0)) #[]
noncomputable def o_583 (P : Params) : Obj := .mk .none none (.fields #[]) #[]
noncomputable def o_586 (P : Params) : Obj := .mk .none none (.func (.mk (.ofString "_law_heard") (.ofString "_law_heard") (fd P 523).params (fd P 523).body (fd P 523).scope 0 [] .none .none .none .none none .none .none 0)) #[]
noncomputable def o_590 (P : Params) : Obj := .mk .none none (.fields #[]) #[]
noncomputable def o_591 (P : Params) : Obj := .mk .none none (.func (.mk (.ofString "_law_right") (.ofString "_law_right") (fd P 528).params (fd P 528).body (fd P 528).scope 0 [] .none .none .none .none none .none .none 0)) #[]
noncomputable def o_595 (P : Params) : Obj := .mk .none none (.fields #[]) #[]
noncomputable def o_598 (P : Params) : Obj := .mk .none none (.func (.mk (.ofString "law") (.ofString "law") (fd P 535).params (fd P 535).body (fd P 535).scope 0 [] .none .none .none .none none .none .none 0)) #[]
noncomputable def t47 (P : Params) : BT := (tn (boot_o_0 P) (tn (boot_o_1 P) (tn (boot_o_3 P) (tl (boot_o_7 P)) (tl (kg P 532))) (tn (boot_o_5 P) (tl (boot_o_9 P)) (tl (o_45 P)))) (tn (boot_o_2 P) (tn (boot_o_4 P) (tl (boot_o_8 P)) (tl (o_44 P))) (tn (boot_o_6 P) (tl (boot_o_10 P)) (tl (o_46 P)))))
noncomputable def t59 (P : Params) : BT := (tn (boot_o_0 P) (tn (boot_o_1 P) (tn (o_49 P) (tn (boot_o_7 P) (tl (kg P 532)) (tl (kg P 23))) (tn (kg P 532) (tl (o_55 P)) .nil)) (tn (boot_o_5 P) (tn (boot_o_9 P) (tl (kg P 17)) .nil) (tn (o_45 P) (tl (kg P 21)) .nil))) (tn (boot_o_2 P) (tn (boot_o_4 P) (tn (boot_o_8 P) (tl (o_52 P)) .nil) (tn (o_50 P) (tl (kg P 20)) .nil)) (tn (boot_o_6 P) (tn (boot_o_10 P) (tl (kg P 532)) .nil) (tn (o_46 P) (tl (kg P 22)) .nil))))
noncomputable def t63 (P : Params) : BT := (tn (boot_o_0 P) (tn (boot_o_1 P) (tn (o_62 P) (tn (boot_o_7 P) (tl (kg P 532)) (tl (kg P 23))) (tn (kg P 532) (tl (o_55 P)) .nil)) (tn (boot_o_5 P) (tn (boot_o_9 P) (tl (kg P 17)) .nil) (tn (o_45 P) (tl (kg P 21)) .nil))) (tn (boot_o_2 P) (tn (boot_o_4 P) (tn (boot_o_8 P) (tl (o_52 P)) (tl (kg P 24))) (tn (o_50 P) (tl (kg P 20)) .nil)) (tn (boot_o_6 P) (tn (boot_o_10 P) (tl (kg P 532)) .nil) (tn (o_46 P) (tl (kg P 22)) .nil))))
noncomputable def t96 (P : Params) : BT := (tn (boot_o_0 P) (tn (boot_o_1 P) (tn (o_67 P) (tn (boot_o_7 P) (tn (kg P 532) (tl (o_75 P)) (tl (kg P 47))) (tn (kg P 23) (tl (kg P 39)) .nil)) (tn (kg P 532) (tn (o_55 P) (tl (kg P 35)) (tl (o_95 P))) (tn (o_71 P) (tl (kg P 532)) .nil))) (tn (boot_o_5 P) (tn (boot_o_9 P) (tn (kg P 17) (tl (kg P 532)) (tl (o_93 P))) (tn (kg P 25) (tl (o_85 P)) .nil)) (tn (o_45 P) (tn (kg P 21) (tl (o_81 P)) .nil) (tn (o_73 P) (tl (kg P 45)) .nil)))) (tn (kg P 2) (tn (boot_o_4 P) (tn (boot_o_8 P) (tn (o_52 P) (tl (kg P 32)) (tl (kg P 48))) (tn (kg P 24) (tl (kg P 532)) .nil)) (tn (o_68 P) (tn (kg P 20) (tl (kg P 532)) (tl (o_96 P))) (tn (kg P 532) (tl (o_88 P)) .nil))) (tn (boot_o_6 P) (tn (boot_o_10 P) (tn (kg P 532) (tl (o_78 P)) (tl (kg P 50))) (tn (o_70 P) (tl (kg P 42)) .nil)) (tn (o_46 P) (tn (kg P 22) (tl (kg P 38)) .nil) (tn (o_74 P) (tl (kg P 46)) .nil)))))
noncomputable def t111 (P : Params) : BT := (tn (boot_o_0 P) (tn (boot_o_1 P) (tn (o_97 P) (tn (boot_o_7 P) (tn (kg P 532) (tn (o_75 P) (tl (o_110 P)) .nil) (tl (kg P 47))) (tn (kg P 23) (tl (kg P 39)) (tl (o_102 P)))) (tn (kg P 532) (tn (o_55 P) (tl (kg P 35)) (tl (o_95 P))) (tn (o_71 P) (tl (kg P 532)) (tl (o_106 P))))) (tn (boot_o_5 P) (tn (boot_o_9 P) (tn (kg P 17) (tl (kg P 532)) (tl (o_99 P))) (tn (kg P 25) (tl (o_85 P)) (tl (o_104 P)))) (tn (o_45 P) (tn (kg P 21) (tl (o_81 P)) (tl (kg P 65))) (tn (o_73 P) (tl (kg P 45)) (tl (kg P 61)))))) (tn (kg P 2) (tn (boot_o_4 P) (tn (boot_o_8 P) (tn (o_52 P) (tn (kg P 32) (tl (o_111 P)) .nil) (tl (kg P 48))) (tn (kg P 24) (tl (kg P 532)) (tl (kg P 532)))) (tn (o_98 P) (tn (kg P 20) (tl (kg P 532)) (tl (o_96 P))) (tn (kg P 532) (tl (o_88 P)) (tl (kg P 532))))) (tn (boot_o_6 P) (tn (boot_o_10 P) (tn (kg P 532) (tl (o_78 P)) (tl (kg P 50))) (tn (o_70 P) (tl (kg P 42)) (tl (o_105 P)))) (tn (o_46 P) (tn (kg P 22) (tl (kg P 38)) (tl (o_101 P))) (tn (o_74 P) (tl (kg P 46)) (tl (kg P 62)))))))
noncomputable def t157 (P : Params) : BT := (tn (boot_o_0 P) (tn (boot_o_1 P) (tn (o_112 P) (tn (boot_o_7 P) (tn (kg P 532) (tn (o_75 P) (tl (o_110 P)) (tl (o_145 P))) (tn (kg P 47) (tl (kg P 79)) .nil)) (tn (kg P 23) (tn (kg P 39) (tl (o_121 P)) (tl (kg P 103))) (tn (o_102 P) (tl (kg P 532)) .nil))) (tn (kg P 532) (tn (o_55 P) (tn (kg P 35) (tl (o_117 P)) (tl (kg P 99))) (tn (o_95 P) (tl (kg P 532)) .nil)) (tn (o_71 P) (tn (kg P 532) (tl (o_125 P)) (tl (kg P 107))) (tn (o_106 P) (tl (o_141 P)) .nil)))) (tn (boot_o_5 P) (tn (boot_o_9 P) (tn (kg P 17) (tn (kg P 532) (tl (kg P 65)) (tl (kg P 532))) (tn (kg P 49) (tl (o_131 P)) .nil)) (tn (kg P 25) (tn (o_85 P) (tl (kg P 73)) (tl (o_155 P))) (tn (o_104 P) (tl (kg P 89)) .nil))) (tn (o_45 P) (tn (kg P 21) (tn (o_81 P) (tl (o_119 P)) (tl (kg P 532))) (tn (kg P 65) (tl (kg P 85)) .nil)) (tn (o_73 P) (tn (kg P 45) (tl (kg P 77)) .nil) (tn (kg P 61) (tl (kg P 93)) .nil))))) (tn (kg P 2) (tn (boot_o_4 P) (tn (boot_o_8 P) (tn (o_52 P) (tn (kg P 32) (tl (o_111 P)) (tl (kg P 96))) (tn (kg P 48) (tl (kg P 532)) .nil)) (tn (kg P 24) (tn (kg P 532) (tl (kg P 532)) (tl (kg P 532))) (tn (kg P 532) (tl (o_138 P)) .nil))) (tn (o_113 P) (tn (kg P 20) (tn (kg P 532) (tl (kg P 532)) (tl (kg P 100))) (tn (o_96 P) (tl (o_134 P)) .nil)) (tn (kg P 532) (tn (o_88 P) (tl (o_126 P)) .nil) (tn (kg P 532) (tl (kg P 92)) .nil)))) (tn (boot_o_6 P) (tn (boot_o_10 P) (tn (kg P 532) (tn (o_78 P) (tl (o_116 P)) (tl (o_148 P))) (tn (kg P 50) (tl (kg P 82)) .nil)) (tn (o_70 P) (tn (kg P 42) (tl (kg P 74)) (tl (kg P 106))) (tn (o_105 P) (tl (kg P 532)) .nil))) (tn (o_46 P) (tn (kg P 22) (tn (kg P 38) (tl (o_120 P)) (tl (o_152 P))) (tn (o_101 P) (tl (kg P 86)) .nil)) (tn (o_74 P) (tn (kg P 46) (tl (kg P 78)) .nil) (tn (kg P 62) (tl (kg P 532)) .nil))))))
noncomputable def t234 (P : Params) : BT := (tn (boot_o_0 P) (tn (boot_o_1 P) (tn (o_158 P) (tn (boot_o_7 P) (tn (kg P 532) (tn (o_75 P) (tn (o_110 P) (tl (kg P 127)) .nil) (tn (o_145 P) (tl (kg P 159)) .nil)) (tn (kg P 47) (tn (kg P 79) (tl (kg P 532)) .nil) (tn (kg P 532) (tl (kg P 175)) .nil))) (tn (kg P 23) (tn (kg P 39) (tn (o_121 P) (tl (kg P 135)) .nil) (tn (kg P 103) (tl (kg P 532)) .nil)) (tn (o_102 P) (tn (kg P 532) (tl (o_203 P)) .nil) (tl (o_171 P))))) (tn (kg P 532) (tn (o_55 P) (tn (kg P 35) (tn (o_117 P) (tl (kg P 131)) .nil) (tn (kg P 99) (tl (kg P 163)) .nil)) (tn (o_95 P) (tn (kg P 532) (tl (o_199 P)) .nil) (tn (kg P 532) (tl (kg P 532)) .nil))) (tn (o_71 P) (tn (kg P 532) (tn (o_125 P) (tl (kg P 532)) .nil) (tn (kg P 107) (tl (kg P 532)) .nil)) (tn (o_106 P) (tn (o_141 P) (tl (kg P 155)) .nil) (tl (o_175 P)))))) (tn (boot_o_5 P) (tn (boot_o_9 P) (tn (kg P 17) (tn (kg P 532) (tn (kg P 65) (tl (kg P 532)) .nil) (tn (kg P 532) (tl (o_213 P)) .nil)) (tn (kg P 49) (tn (o_131 P) (tl (kg P 145)) .nil) (tn (kg P 113) (tl (o_229 P)) .nil))) (tn (kg P 25) (tn (o_85 P) (tn (kg P 73) (tl (o_189 P)) .nil) (tn (o_155 P) (tl (kg P 169)) .nil)) (tn (o_104 P) (tn (kg P 89) (tl (kg P 532)) .nil) (tl (kg P 121))))) (tn (o_45 P) (tn (kg P 21) (tn (o_81 P) (tn (o_119 P) (tl (o_185 P)) .nil) (tn (kg P 532) (tl (o_217 P)) .nil)) (tn (kg P 65) (tn (kg P 85) (tl (kg P 149)) .nil) (tn (kg P 117) (tl (kg P 181)) .nil))) (tn (o_73 P) (tn (kg P 45) (tn (kg P 77) (tl (kg P 141)) .nil) (tn (o_161 P) (tl (o_225 P)) .nil)) (tn (kg P 61) (tn (kg P 93) (tl (kg P 532)) .nil) (tl (kg P 532))))))) (tn (kg P 2) (tn (boot_o_4 P) (tn (boot_o_8 P) (tn (o_52 P) (tn (kg P 32) (tn (o_111 P) (tl (kg P 128)) .nil) (tn (kg P 96) (tl (kg P 532)) .nil)) (tn (kg P 48) (tn (kg P 532) (tl (o_196 P)) .nil) (tn (o_164 P) (tl (kg P 532)) .nil))) (tn (kg P 24) (tn (kg P 532) (tn (kg P 532) (tl (kg P 532)) .nil) (tn (kg P 532) (tl (o_220 P)) .nil)) (tn (kg P 532) (tn (o_138 P) (tl (kg P 152)) .nil) (tl (kg P 120))))) (tn (o_159 P) (tn (kg P 20) (tn (kg P 532) (tn (kg P 532) (tl (kg P 532)) .nil) (tn (kg P 100) (tl (kg P 532)) .nil)) (tn (o_96 P) (tn (o_134 P) (tl (kg P 148)) .nil) (tn (o_168 P) (tl (o_232 P)) .nil))) (tn (kg P 532) (tn (o_88 P) (tn (o_126 P) (tl (o_192 P)) .nil) (tn (kg P 532) (tl (o_224 P)) .nil)) (tn (kg P 532) (tn (kg P 92) (tl (kg P 156)) .nil) (tl (kg P 124)))))) (tn (boot_o_6 P) (tn (boot_o_10 P) (tn (kg P 532) (tn (o_78 P) (tn (o_116 P) (tl (o_182 P)) .nil) (tn (o_148 P) (tl (kg P 162)) .nil)) (tn (kg P 50) (tn (kg P 82) (tl (kg P 532)) .nil) (tn (kg P 114) (tl (kg P 178)) .nil))) (tn (o_70 P) (tn (kg P 42) (tn (kg P 74) (tl (kg P 138)) .nil) (tn (kg P 106) (tl (kg P 170)) .nil)) (tn (o_105 P) (tn (kg P 532) (tl (o_206 P)) .nil) (tl (kg P 532))))) (tn (o_46 P) (tn (kg P 22) (tn (kg P 38) (tn (o_120 P) (tl (kg P 134)) .nil) (tn (o_152 P) (tl (kg P 166)) .nil)) (tn (o_101 P) (tn (kg P 86) (tl (kg P 532)) .nil) (tn (kg P 532) (tl (kg P 182)) .nil))) (tn (o_74 P) (tn (kg P 46) (tn (kg P 78) (tl (kg P 142)) .nil) (tn (kg P 110) (tl (kg P 174)) .nil)) (tn (kg P 62) (tn (kg P 532) (tl (o_210 P)) .nil) (tl (o_178 P))))))))
noncomputable def t292 (P : Params) : BT := (tn (boot_o_0 P) (tn (boot_o_1 P) (tn (o_235 P) (tn (boot_o_7 P) (tn (kg P 532) (tn (o_75 P) (tn (o_110 P) (tl (kg P 127)) (tl (o_245 P))) (tn (o_145 P) (tl (kg P 159)) (tl (kg P 223)))) (tn (kg P 47) (tn (kg P 79) (tl (kg P 532)) (tl (kg P 532))) (tn (kg P 532) (tl (kg P 175)) .nil))) (tn (kg P 23) (tn (kg P 39) (tn (o_121 P) (tl (kg P 135)) (tl (kg P 199))) (tn (kg P 103) (tl (kg P 532)) (tl (kg P 231)))) (tn (o_102 P) (tn (kg P 532) (tl (o_203 P)) (tl (kg P 215))) (tn (o_171 P) (tl (kg P 532)) .nil)))) (tn (kg P 532) (tn (o_55 P) (tn (kg P 35) (tn (o_117 P) (tl (kg P 131)) (tl (kg P 195))) (tn (kg P 99) (tl (kg P 163)) (tl (kg P 227)))) (tn (o_95 P) (tn (kg P 532) (tl (o_199 P)) (tl (kg P 532))) (tn (kg P 532) (tl (kg P 532)) .nil))) (tn (o_71 P) (tn (kg P 532) (tn (o_125 P) (tl (kg P 532)) (tl (kg P 203))) (tn (kg P 107) (tl (kg P 532)) (tl (kg P 532)))) (tn (o_106 P) (tn (o_141 P) (tl (kg P 155)) (tl (o_273 P))) (tn (o_175 P) (tl (o_241 P)) .nil))))) (tn (boot_o_5 P) (tn (boot_o_9 P) (tn (kg P 17) (tn (kg P 532) (tn (kg P 65) (tl (kg P 532)) (tl (kg P 532))) (tn (kg P 532) (tl (o_213 P)) (tl (kg P 532)))) (tn (kg P 49) (tn (o_131 P) (tl (kg P 145)) (tl (kg P 209))) (tn (kg P 113) (tl (o_229 P)) .nil))) (tn (kg P 25) (tn (o_85 P) (tn (kg P 73) (tl (o_189 P)) (tl (o_255 P))) (tn (o_155 P) (tl (kg P 169)) (tl (o_287 P)))) (tn (o_104 P) (tn (kg P 89) (tl (kg P 532)) (tl (o_271 P))) (tn (kg P 121) (tl (o_239 P)) .nil)))) (tn (o_45 P) (tn (kg P 21) (tn (o_81 P) (tn (o_119 P) (tl (o_185 P)) (tl (kg P 532))) (tn (kg P 532) (tl (o_217 P)) (tl (o_283 P)))) (tn (kg P 65) (tn (kg P 85) (tl (kg P 149)) (tl (o_267 P))) (tn (kg P 117) (tl (kg P 181)) .nil))) (tn (o_73 P) (tn (kg P 45) (tn (kg P 77) (tl (kg P 141)) (tl (o_259 P))) (tn (o_161 P) (tl (o_225 P)) (tl (kg P 237)))) (tn (kg P 61) (tn (kg P 93) (tl (kg P 532)) (tl (kg P 532))) (tn (kg P 532) (tl (o_243 P)) .nil)))))) (tn (kg P 2) (tn (boot_o_4 P) (tn (boot_o_8 P) (tn (o_52 P) (tn (kg P 32) (tn (o_111 P) (tl (kg P 128)) (tl (kg P 192))) (tn (kg P 96) (tl (kg P 532)) (tl (kg P 224)))) (tn (kg P 48) (tn (kg P 532) (tl (o_196 P)) (tl (o_262 P))) (tn (o_164 P) (tl (kg P 532)) .nil))) (tn (kg P 24) (tn (kg P 532) (tn (kg P 532) (tl (kg P 532)) (tl (kg P 532))) (tn (kg P 532) (tl (o_220 P)) (tl (kg P 532)))) (tn (kg P 532) (tn (o_138 P) (tl (kg P 152)) (tl (o_270 P))) (tn (kg P 120) (tl (o_238 P)) .nil)))) (tn (o_236 P) (tn (kg P 20) (tn (kg P 532) (tn (kg P 532) (tl (kg P 532)) (tl (kg P 196))) (tn (kg P 100) (tl (kg P 532)) (tl (kg P 532)))) (tn (o_96 P) (tn (o_134 P) (tl (kg P 148)) (tl (kg P 212))) (tn (o_168 P) (tl (o_232 P)) .nil))) (tn (kg P 532) (tn (o_88 P) (tn (o_126 P) (tl (o_192 P)) (tl (kg P 532))) (tn (kg P 532) (tl (o_224 P)) (tl (o_290 P)))) (tn (kg P 532) (tn (kg P 92) (tl (kg P 156)) (tl (kg P 220))) (tn (kg P 124) (tl (o_242 P)) .nil))))) (tn (boot_o_6 P) (tn (boot_o_10 P) (tn (kg P 532) (tn (o_78 P) (tn (o_116 P) (tl (o_182 P)) (tl (o_248 P))) (tn (o_148 P) (tl (kg P 162)) (tl (o_280 P)))) (tn (kg P 50) (tn (kg P 82) (tl (kg P 532)) (tl (kg P 210))) (tn (kg P 114) (tl (kg P 178)) .nil))) (tn (o_70 P) (tn (kg P 42) (tn (kg P 74) (tl (kg P 138)) (tl (kg P 202))) (tn (kg P 106) (tl (kg P 170)) (tl (kg P 234)))) (tn (o_105 P) (tn (kg P 532) (tl (o_206 P)) (tl (kg P 532))) (tn (kg P 532) (tl (kg P 532)) .nil)))) (tn (o_46 P) (tn (kg P 22) (tn (kg P 38) (tn (o_120 P) (tl (kg P 134)) (tl (o_252 P))) (tn (o_152 P) (tl (kg P 166)) (tl (kg P 230)))) (tn (o_101 P) (tn (kg P 86) (tl (kg P 532)) (tl (kg P 214))) (tn (kg P 532) (tl (kg P 182)) .nil))) (tn (o_74 P) (tn (kg P 46) (tn (kg P 78) (tl (kg P 142)) (tl (kg P 206))) (tn (kg P 110) (tl (kg P 174)) (tl (kg P 238)))) (tn (kg P 62) (tn (kg P 532) (tl (o_210 P)) (tl (o_276 P))) (tn (o_178 P) (tl (kg P 532)) .nil)))))))
noncomputable def t378 (P : Params) : BT := (tn (boot_o_0 P) (tn (boot_o_1 P) (tn (o_293 P) (tn (boot_o_7 P) (tn (kg P 532) (tn (o_75 P) (tn (o_110 P) (tn (kg P 127) (tl (kg P 255)) .nil) (tn (o_245 P) (tl (kg P 532)) .nil)) (tn (o_145 P) (tn (kg P 159) (tl (kg P 287)) .nil) (tl (kg P 223)))) (tn (kg P 47) (tn (kg P 79) (tn (kg P 532) (tl (o_327 P)) .nil) (tl (kg P 532))) (tn (kg P 532) (tn (kg P 175) (tl (o_359 P)) .nil) (tl (kg P 532))))) (tn (kg P 23) (tn (kg P 39) (tn (o_121 P) (tn (kg P 135) (tl (kg P 532)) .nil) (tl (kg P 199))) (tn (kg P 103) (tn (kg P 532) (tl (kg P 532)) .nil) (tl (kg P 231)))) (tn (o_102 P) (tn (kg P 532) (tn (o_203 P) (tl (kg P 279)) .nil) (tl (kg P 215))) (tn (o_171 P) (tn (kg P 532) (tl (kg P 311)) .nil) (tl (o_303 P)))))) (tn (kg P 532) (tn (o_55 P) (tn (kg P 35) (tn (o_117 P) (tn (kg P 131) (tl (kg P 259)) .nil) (tl (kg P 195))) (tn (kg P 99) (tn (kg P 163) (tl (kg P 532)) .nil) (tl (kg P 227)))) (tn (o_95 P) (tn (kg P 532) (tn (o_199 P) (tl (o_331 P)) .nil) (tl (kg P 532))) (tn (kg P 532) (tn (kg P 532) (tl (kg P 307)) .nil) (tl (o_299 P))))) (tn (o_71 P) (tn (kg P 532) (tn (o_125 P) (tn (kg P 532) (tl (kg P 532)) .nil) (tl (kg P 203))) (tn (kg P 107) (tn (kg P 532) (tl (o_355 P)) .nil) (tl (kg P 532)))) (tn (o_106 P) (tn (o_141 P) (tn (kg P 155) (tl (kg P 283)) .nil) (tl (o_273 P))) (tn (o_175 P) (tn (o_241 P) (tl (kg P 315)) .nil) (tl (kg P 251))))))) (tn (boot_o_5 P) (tn (boot_o_9 P) (tn (kg P 17) (tn (kg P 532) (tn (kg P 65) (tn (kg P 532) (tl (o_313 P)) .nil) (tn (kg P 532) (tl (kg P 321)) .nil)) (tn (kg P 532) (tn (o_213 P) (tl (o_345 P)) .nil) (tl (kg P 532)))) (tn (kg P 49) (tn (o_131 P) (tn (kg P 145) (tl (kg P 273)) .nil) (tl (kg P 209))) (tn (kg P 113) (tn (o_229 P) (tl (kg P 532)) .nil) (tl (kg P 241))))) (tn (kg P 25) (tn (o_85 P) (tn (kg P 73) (tn (o_189 P) (tl (kg P 265)) .nil) (tl (o_255 P))) (tn (o_155 P) (tn (kg P 169) (tl (kg P 297)) .nil) (tl (o_287 P)))) (tn (o_104 P) (tn (kg P 89) (tn (kg P 532) (tl (kg P 532)) .nil) (tl (o_271 P))) (tn (kg P 121) (tn (o_239 P) (tl (o_369 P)) .nil) (tl (kg P 532)))))) (tn (o_45 P) (tn (kg P 21) (tn (o_81 P) (tn (o_119 P) (tn (o_185 P) (tl (o_317 P)) .nil) (tl (kg P 532))) (tn (kg P 532) (tn (o_217 P) (tl (kg P 293)) .nil) (tl (o_283 P)))) (tn (kg P 65) (tn (kg P 85) (tn (kg P 149) (tl (kg P 532)) .nil) (tl (o_267 P))) (tn (kg P 117) (tn (kg P 181) (tl (kg P 532)) .nil) (tl (kg P 245))))) (tn (o_73 P) (tn (kg P 45) (tn (kg P 77) (tn (kg P 141) (tl (kg P 269)) .nil) (tl (o_259 P))) (tn (o_161 P) (tn (o_225 P) (tl (kg P 301)) .nil) (tl (kg P 237)))) (tn (kg P 61) (tn (kg P 93) (tn (kg P 532) (tl (o_341 P)) .nil) (tl (kg P 532))) (tn (kg P 532) (tn (o_243 P) (tl (o_373 P)) .nil) (tl (kg P 532)))))))) (tn (kg P 2) (tn (boot_o_4 P) (tn (boot_o_8 P) (tn (o_52 P) (tn (kg P 32) (tn (o_111 P) (tn (kg P 128) (tl (kg P 532)) .nil) (tn (kg P 192) (tl (o_376 P)) .nil)) (tn (kg P 96) (tn (kg P 532) (tl (kg P 532)) .nil) (tl (kg P 224)))) (tn (kg P 48) (tn (kg P 532) (tn (o_196 P) (tl (kg P 272)) .nil) (tl (o_262 P))) (tn (o_164 P) (tn (kg P 532) (tl (kg P 304)) .nil) (tl (o_296 P))))) (tn (kg P 24) (tn (kg P 532) (tn (kg P 532) (tn (kg P 532) (tl (o_320 P)) .nil) (tl (kg P 532))) (tn (kg P 532) (tn (o_220 P) (tl (o_352 P)) .nil) (tl (kg P 532)))) (tn (kg P 532) (tn (o_138 P) (tn (kg P 152) (tl (kg P 280)) .nil) (tl (o_270 P))) (tn (kg P 120) (tn (o_238 P) (tl (kg P 532)) .nil) (tl (kg P 248)))))) (tn (o_294 P) (tn (kg P 20) (tn (kg P 532) (tn (kg P 532) (tn (kg P 532) (tl (kg P 532)) .nil) (tl (kg P 196))) (tn (kg P 100) (tn (kg P 532) (tl (o_348 P)) .nil) (tl (kg P 532)))) (tn (o_96 P) (tn (o_134 P) (tn (kg P 148) (tl (kg P 276)) .nil) (tl (kg P 212))) (tn (o_168 P) (tn (o_232 P) (tl (kg P 308)) .nil) (tl (kg P 244))))) (tn (kg P 532) (tn (o_88 P) (tn (o_126 P) (tn (o_192 P) (tl (o_324 P)) .nil) (tl (kg P 532))) (tn (kg P 532) (tn (o_224 P) (tl (kg P 300)) .nil) (tl (o_290 P)))) (tn (kg P 532) (tn (kg P 92) (tn (kg P 156) (tl (kg P 532)) .nil) (tl (kg P 220))) (tn (kg P 124) (tn (o_242 P) (tl (kg P 532)) .nil) (tl (kg P 252))))))) (tn (boot_o_6 P) (tn (boot_o_10 P) (tn (kg P 532) (tn (o_78 P) (tn (o_116 P) (tn (o_182 P) (tl (kg P 258)) .nil) (tn (o_248 P) (tl (kg P 322)) .nil)) (tn (o_148 P) (tn (kg P 162) (tl (kg P 290)) .nil) (tl (o_280 P)))) (tn (kg P 50) (tn (kg P 82) (tn (kg P 532) (tl (kg P 532)) .nil) (tl (kg P 210))) (tn (kg P 114) (tn (kg P 178) (tl (o_362 P)) .nil) (tl (kg P 532))))) (tn (o_70 P) (tn (kg P 42) (tn (kg P 74) (tn (kg P 138) (tl (kg P 266)) .nil) (tl (kg P 202))) (tn (kg P 106) (tn (kg P 170) (tl (kg P 532)) .nil) (tl (kg P 234)))) (tn (o_105 P) (tn (kg P 532) (tn (o_206 P) (tl (o_338 P)) .nil) (tl (kg P 532))) (tn (kg P 532) (tn (kg P 532) (tl (kg P 314)) .nil) (tl (o_306 P)))))) (tn (o_46 P) (tn (kg P 22) (tn (kg P 38) (tn (o_120 P) (tn (kg P 134) (tl (kg P 262)) .nil) (tl (o_252 P))) (tn (o_152 P) (tn (kg P 166) (tl (kg P 294)) .nil) (tl (kg P 230)))) (tn (o_101 P) (tn (kg P 86) (tn (kg P 532) (tl (o_334 P)) .nil) (tl (kg P 214))) (tn (kg P 532) (tn (kg P 182) (tl (o_366 P)) .nil) (tl (kg P 532))))) (tn (o_74 P) (tn (kg P 46) (tn (kg P 78) (tn (kg P 142) (tl (kg P 532)) .nil) (tl (kg P 206))) (tn (kg P 110) (tn (kg P 174) (tl (kg P 532)) .nil) (tl (kg P 238)))) (tn (kg P 62) (tn (kg P 532) (tn (o_210 P) (tl (kg P 286)) .nil) (tl (o_276 P))) (tn (o_178 P) (tn (kg P 532) (tl (kg P 318)) .nil) (tl (o_310 P)))))))))
noncomputable def t436 (P : Params) : BT := (tn (boot_o_0 P) (tn (boot_o_1 P) (tn (o_379 P) (tn (boot_o_7 P) (tn (kg P 532) (tn (o_75 P) (tn (o_110 P) (tn (kg P 127) (tl (kg P 255)) .nil) (tn (o_245 P) (tl (kg P 532)) .nil)) (tn (o_145 P) (tn (kg P 159) (tl (kg P 287)) .nil) (tn (kg P 223) (tl (kg P 532)) .nil))) (tn (kg P 47) (tn (kg P 79) (tn (kg P 532) (tl (o_327 P)) .nil) (tn (kg P 532) (tl (kg P 335)) .nil)) (tn (kg P 532) (tn (kg P 175) (tl (o_359 P)) .nil) (tn (kg P 532) (tl (kg P 367)) .nil)))) (tn (kg P 23) (tn (kg P 39) (tn (o_121 P) (tn (kg P 135) (tl (kg P 532)) .nil) (tn (kg P 199) (tl (o_385 P)) .nil)) (tn (kg P 103) (tn (kg P 532) (tl (kg P 532)) .nil) (tn (kg P 231) (tl (o_417 P)) .nil))) (tn (o_102 P) (tn (kg P 532) (tn (o_203 P) (tl (kg P 279)) .nil) (tn (kg P 215) (tl (kg P 343)) .nil)) (tn (o_171 P) (tn (kg P 532) (tl (kg P 311)) .nil) (tn (o_303 P) (tl (kg P 375)) .nil))))) (tn (kg P 532) (tn (o_55 P) (tn (kg P 35) (tn (o_117 P) (tn (kg P 131) (tl (kg P 259)) .nil) (tn (kg P 195) (tl (kg P 532)) .nil)) (tn (kg P 99) (tn (kg P 163) (tl (kg P 532)) .nil) (tn (kg P 227) (tl (o_413 P)) .nil))) (tn (o_95 P) (tn (kg P 532) (tn (o_199 P) (tl (o_331 P)) .nil) (tn (kg P 532) (tl (kg P 339)) .nil)) (tn (kg P 532) (tn (kg P 532) (tl (kg P 307)) .nil) (tn (o_299 P) (tl (kg P 371)) .nil)))) (tn (o_71 P) (tn (kg P 532) (tn (o_125 P) (tn (kg P 532) (tl (kg P 532)) .nil) (tn (kg P 203) (tl (o_389 P)) .nil)) (tn (kg P 107) (tn (kg P 532) (tl (o_355 P)) .nil) (tn (kg P 532) (tl (kg P 363)) .nil))) (tn (o_106 P) (tn (o_141 P) (tn (kg P 155) (tl (kg P 283)) .nil) (tn (o_273 P) (tl (kg P 532)) .nil)) (tn (o_175 P) (tn (o_241 P) (tl (kg P 315)) .nil) (tl (kg P 251))))))) (tn (boot_o_5 P) (tn (boot_o_9 P) (tn (kg P 17) (tn (kg P 532) (tn (kg P 65) (tn (kg P 532) (tl (o_313 P)) .nil) (tn (kg P 532) (tl (kg P 321)) .nil)) (tn (kg P 532) (tn (o_213 P) (tl (o_345 P)) .nil) (tn (kg P 532) (tl (kg P 353)) .nil))) (tn (kg P 49) (tn (o_131 P) (tn (kg P 145) (tl (kg P 273)) .nil) (tn (kg P 209) (tl (kg P 532)) .nil)) (tn (kg P 113) (tn (o_229 P) (tl (kg P 532)) .nil) (tn (kg P 241) (tl (o_427 P)) .nil)))) (tn (kg P 25) (tn (o_85 P) (tn (kg P 73) (tn (o_189 P) (tl (kg P 265)) .nil) (tn (o_255 P) (tl (o_387 P)) .nil)) (tn (o_155 P) (tn (kg P 169) (tl (kg P 297)) .nil) (tn (o_287 P) (tl (kg P 532)) .nil))) (tn (o_104 P) (tn (kg P 89) (tn (kg P 532) (tl (kg P 532)) .nil) (tn (o_271 P) (tl (o_403 P)) .nil)) (tn (kg P 121) (tn (o_239 P) (tl (o_369 P)) .nil) (tn (kg P 532) (tl (o_435 P)) .nil))))) (tn (o_45 P) (tn (kg P 21) (tn (o_81 P) (tn (o_119 P) (tn (o_185 P) (tl (o_317 P)) .nil) (tn (kg P 532) (tl (o_383 P)) .nil)) (tn (kg P 532) (tn (o_217 P) (tl (kg P 293)) .nil) (tn (o_283 P) (tl (kg P 357)) .nil))) (tn (kg P 65) (tn (kg P 85) (tn (kg P 149) (tl (kg P 532)) .nil) (tn (o_267 P) (tl (o_399 P)) .nil)) (tn (kg P 117) (tn (kg P 181) (tl (kg P 532)) .nil) (tn (kg P 245) (tl (kg P 373)) .nil)))) (tn (o_73 P) (tn (kg P 45) (tn (kg P 77) (tn (kg P 141) (tl (kg P 269)) .nil) (tn (o_259 P) (tl (kg P 532)) .nil)) (tn (o_161 P) (tn (o_225 P) (tl (kg P 301)) .nil) (tn (kg P 237) (tl (kg P 532)) .nil))) (tn (kg P 61) (tn (kg P 93) (tn (kg P 532) (tl (o_341 P)) .nil) (tn (kg P 532) (tl (kg P 349)) .nil)) (tn (kg P 532) (tn (o_243 P) (tl (o_373 P)) .nil) (tl (kg P 532)))))))) (tn (kg P 2) (tn (boot_o_4 P) (tn (boot_o_8 P) (tn (o_52 P) (tn (kg P 32) (tn (o_111 P) (tn (kg P 128) (tl (kg P 532)) .nil) (tn (kg P 192) (tl (o_376 P)) .nil)) (tn (kg P 96) (tn (kg P 532) (tl (kg P 532)) .nil) (tn (kg P 224) (tl (o_410 P)) .nil))) (tn (kg P 48) (tn (kg P 532) (tn (o_196 P) (tl (kg P 272)) .nil) (tn (o_262 P) (tl (kg P 336)) .nil)) (tn (o_164 P) (tn (kg P 532) (tl (kg P 304)) .nil) (tn (o_296 P) (tl (kg P 532)) .nil)))) (tn (kg P 24) (tn (kg P 532) (tn (kg P 532) (tn (kg P 532) (tl (o_320 P)) .nil) (tn (kg P 532) (tl (o_386 P)) .nil)) (tn (kg P 532) (tn (o_220 P) (tl (o_352 P)) .nil) (tn (kg P 532) (tl (kg P 360)) .nil))) (tn (kg P 532) (tn (o_138 P) (tn (kg P 152) (tl (kg P 280)) .nil) (tn (o_270 P) (tl (kg P 532)) .nil)) (tn (kg P 120) (tn (o_238 P) (tl (kg P 532)) .nil) (tn (kg P 248) (tl (kg P 376)) .nil))))) (tn (o_380 P) (tn (kg P 20) (tn (kg P 532) (tn (kg P 532) (tn (kg P 532) (tl (kg P 532)) .nil) (tn (kg P 196) (tl (o_382 P)) .nil)) (tn (kg P 100) (tn (kg P 532) (tl (o_348 P)) .nil) (tn (kg P 532) (tl (kg P 356)) .nil))) (tn (o_96 P) (tn (o_134 P) (tn (kg P 148) (tl (kg P 276)) .nil) (tn (kg P 212) (tl (kg P 532)) .nil)) (tn (o_168 P) (tn (o_232 P) (tl (kg P 308)) .nil) (tn (kg P 244) (tl (kg P 372)) .nil)))) (tn (kg P 532) (tn (o_88 P) (tn (o_126 P) (tn (o_192 P) (tl (o_324 P)) .nil) (tn (kg P 532) (tl (kg P 332)) .nil)) (tn (kg P 532) (tn (o_224 P) (tl (kg P 300)) .nil) (tn (o_290 P) (tl (kg P 364)) .nil))) (tn (kg P 532) (tn (kg P 92) (tn (kg P 156) (tl (kg P 532)) .nil) (tn (kg P 220) (tl (o_406 P)) .nil)) (tn (kg P 124) (tn (o_242 P) (tl (kg P 532)) .nil) (tl (kg P 252))))))) (tn (boot_o_6 P) (tn (boot_o_10 P) (tn (kg P 532) (tn (o_78 P) (tn (o_116 P) (tn (o_182 P) (tl (kg P 258)) .nil) (tn (o_248 P) (tl (kg P 322)) .nil)) (tn (o_148 P) (tn (kg P 162) (tl (kg P 290)) .nil) (tn (o_280 P) (tl (kg P 532)) .nil))) (tn (kg P 50) (tn (kg P 82) (tn (kg P 532) (tl (kg P 532)) .nil) (tn (kg P 210) (tl (o_396 P)) .nil)) (tn (kg P 114) (tn (kg P 178) (tl (o_362 P)) .nil) (tn (kg P 532) (tl (kg P 370)) .nil)))) (tn (o_70 P) (tn (kg P 42) (tn (kg P 74) (tn (kg P 138) (tl (kg P 266)) .nil) (tn (kg P 202) (tl (kg P 532)) .nil)) (tn (kg P 106) (tn (kg P 170) (tl (kg P 532)) .nil) (tn (kg P 234) (tl (o_420 P)) .nil))) (tn (o_105 P) (tn (kg P 532) (tn (o_206 P) (tl (o_338 P)) .nil) (tn (kg P 532) (tl (kg P 346)) .nil)) (tn (kg P 532) (tn (kg P 532) (tl (kg P 314)) .nil) (tn (o_306 P) (tl (o_436 P)) .nil))))) (tn (o_46 P) (tn (kg P 22) (tn (kg P 38) (tn (o_120 P) (tn (kg P 134) (tl (kg P 262)) .nil) (tn (o_252 P) (tl (kg P 532)) .nil)) (tn (o_152 P) (tn (kg P 166) (tl (kg P 294)) .nil) (tn (kg P 230) (tl (kg P 532)) .nil))) (tn (o_101 P) (tn (kg P 86) (tn (kg P 532) (tl (o_334 P)) .nil) (tn (kg P 214) (tl (kg P 342)) .nil)) (tn (kg P 532) (tn (kg P 182) (tl (o_366 P)) .nil) (tn (kg P 532) (tl (kg P 374)) .nil)))) (tn (o_74 P) (tn (kg P 46) (tn (kg P 78) (tn (kg P 142) (tl (kg P 532)) .nil) (tn (kg P 206) (tl (o_392 P)) .nil)) (tn (kg P 110) (tn (kg P 174) (tl (kg P 532)) .nil) (tn (kg P 238) (tl (o_424 P)) .nil))) (tn (kg P 62) (tn (kg P 532) (tn (o_210 P) (tl (kg P 286)) .nil) (tn (o_276 P) (tl (kg P 350)) .nil)) (tn (o_178 P) (tn (kg P 532) (tl (kg P 318)) .nil) (tl (o_310 P)))))))))
noncomputable def t514 (P : Params) : BT := (tn (boot_o_0 P) (tn (boot_o_1 P) (tn (o_437 P) (tn (boot_o_7 P) (tn (kg P 532) (tn (o_75 P) (tn (o_110 P) (tn (kg P 127) (tl (kg P 255)) (tl (o_443 P))) (tn (o_245 P) (tl (kg P 532)) (tl (kg P 447)))) (tn (o_145 P) (tn (kg P 159) (tl (kg P 287)) (tl (kg P 532))) (tn (kg P 223) (tl (kg P 532)) .nil))) (tn (kg P 47) (tn (kg P 79) (tn (kg P 532) (tl (o_327 P)) (tl (kg P 399))) (tn (kg P 532) (tl (kg P 335)) .nil)) (tn (kg P 532) (tn (kg P 175) (tl (o_359 P)) (tl (kg P 431))) (tn (kg P 532) (tl (kg P 367)) .nil)))) (tn (kg P 23) (tn (kg P 39) (tn (o_121 P) (tn (kg P 135) (tl (kg P 532)) (tl (o_451 P))) (tn (kg P 199) (tl (o_385 P)) .nil)) (tn (kg P 103) (tn (kg P 532) (tl (kg P 532)) (tl (o_483 P))) (tn (kg P 231) (tl (o_417 P)) .nil))) (tn (o_102 P) (tn (kg P 532) (tn (o_203 P) (tl (kg P 279)) (tl (kg P 407))) (tn (kg P 215) (tl (kg P 343)) .nil)) (tn (o_171 P) (tn (kg P 532) (tl (kg P 311)) (tl (kg P 532))) (tn (o_303 P) (tl (kg P 375)) .nil))))) (tn (kg P 532) (tn (o_55 P) (tn (kg P 35) (tn (o_117 P) (tn (kg P 131) (tl (kg P 259)) (tl (kg P 532))) (tn (kg P 195) (tl (kg P 532)) (tl (kg P 451)))) (tn (kg P 99) (tn (kg P 163) (tl (kg P 532)) (tl (o_479 P))) (tn (kg P 227) (tl (o_413 P)) .nil))) (tn (o_95 P) (tn (kg P 532) (tn (o_199 P) (tl (o_331 P)) (tl (kg P 403))) (tn (kg P 532) (tl (kg P 339)) .nil)) (tn (kg P 532) (tn (kg P 532) (tl (kg P 307)) (tl (kg P 435))) (tn (o_299 P) (tl (kg P 371)) .nil)))) (tn (o_71 P) (tn (kg P 532) (tn (o_125 P) (tn (kg P 532) (tl (kg P 532)) (tl (o_455 P))) (tn (kg P 203) (tl (o_389 P)) .nil)) (tn (kg P 107) (tn (kg P 532) (tl (o_355 P)) (tl (kg P 427))) (tn (kg P 532) (tl (kg P 363)) .nil))) (tn (o_106 P) (tn (o_141 P) (tn (kg P 155) (tl (kg P 283)) (tl (kg P 532))) (tn (o_273 P) (tl (kg P 532)) .nil)) (tn (o_175 P) (tn (o_241 P) (tl (kg P 315)) (tl (kg P 532))) (tn (kg P 251) (tl (kg P 532)) .nil)))))) (tn (boot_o_5 P) (tn (boot_o_9 P) (tn (kg P 17) (tn (kg P 532) (tn (kg P 65) (tn (kg P 532) (tl (o_313 P)) (tl (o_445 P))) (tn (kg P 532) (tl (kg P 321)) (tl (kg P 449)))) (tn (kg P 532) (tn (o_213 P) (tl (o_345 P)) (tl (kg P 417))) (tn (kg P 532) (tl (kg P 353)) .nil))) (tn (kg P 49) (tn (o_131 P) (tn (kg P 145) (tl (kg P 273)) (tl (kg P 532))) (tn (kg P 209) (tl (kg P 532)) .nil)) (tn (kg P 113) (tn (o_229 P) (tl (kg P 532)) (tl (o_493 P))) (tn (kg P 241) (tl (o_427 P)) .nil)))) (tn (kg P 25) (tn (o_85 P) (tn (kg P 73) (tn (o_189 P) (tl (kg P 265)) (tl (kg P 393))) (tn (o_255 P) (tl (o_387 P)) .nil)) (tn (o_155 P) (tn (kg P 169) (tl (kg P 297)) (tl (kg P 532))) (tn (o_287 P) (tl (kg P 532)) .nil))) (tn (o_104 P) (tn (kg P 89) (tn (kg P 532) (tl (kg P 532)) (tl (o_469 P))) (tn (o_271 P) (tl (o_403 P)) .nil)) (tn (kg P 121) (tn (o_239 P) (tl (o_369 P)) (tl (kg P 441))) (tn (kg P 532) (tl (o_435 P)) .nil))))) (tn (o_45 P) (tn (kg P 21) (tn (o_81 P) (tn (o_119 P) (tn (o_185 P) (tl (o_317 P)) (tl (kg P 389))) (tn (kg P 532) (tl (o_383 P)) (tl (o_513 P)))) (tn (kg P 532) (tn (o_217 P) (tl (kg P 293)) (tl (kg P 421))) (tn (o_283 P) (tl (kg P 357)) .nil))) (tn (kg P 65) (tn (kg P 85) (tn (kg P 149) (tl (kg P 532)) (tl (o_465 P))) (tn (o_267 P) (tl (o_399 P)) .nil)) (tn (kg P 117) (tn (kg P 181) (tl (kg P 532)) (tl (o_497 P))) (tn (kg P 245) (tl (kg P 373)) .nil)))) (tn (o_73 P) (tn (kg P 45) (tn (kg P 77) (tn (kg P 141) (tl (kg P 269)) (tl (kg P 532))) (tn (o_259 P) (tl (kg P 532)) .nil)) (tn (o_161 P) (tn (o_225 P) (tl (kg P 301)) (tl (kg P 532))) (tn (kg P 237) (tl (kg P 532)) .nil))) (tn (kg P 61) (tn (kg P 93) (tn (kg P 532) (tl (o_341 P)) (tl (kg P 413))) (tn (kg P 532) (tl (kg P 349)) .nil)) (tn (kg P 532) (tn (o_243 P) (tl (o_373 P)) (tl (o_505 P))) (tn (kg P 532) (tl (o_441 P)) .nil))))))) (tn (kg P 2) (tn (boot_o_4 P) (tn (boot_o_8 P) (tn (o_52 P) (tn (kg P 32) (tn (o_111 P) (tn (kg P 128) (tl (kg P 532)) (tl (o_444 P))) (tn (kg P 192) (tl (o_376 P)) (tl (kg P 448)))) (tn (kg P 96) (tn (kg P 532) (tl (kg P 532)) (tl (o_476 P))) (tn (kg P 224) (tl (o_410 P)) .nil))) (tn (kg P 48) (tn (kg P 532) (tn (o_196 P) (tl (kg P 272)) (tl (kg P 400))) (tn (o_262 P) (tl (kg P 336)) .nil)) (tn (o_164 P) (tn (kg P 532) (tl (kg P 304)) (tl (kg P 532))) (tn (o_296 P) (tl (kg P 532)) .nil)))) (tn (kg P 24) (tn (kg P 532) (tn (kg P 532) (tn (kg P 532) (tl (o_320 P)) (tl (kg P 392))) (tn (kg P 532) (tl (o_386 P)) .nil)) (tn (kg P 532) (tn (o_220 P) (tl (o_352 P)) (tl (kg P 424))) (tn (kg P 532) (tl (kg P 360)) .nil))) (tn (kg P 532) (tn (o_138 P) (tn (kg P 152) (tl (kg P 280)) (tl (kg P 532))) (tn (o_270 P) (tl (kg P 532)) .nil)) (tn (kg P 120) (tn (o_238 P) (tl (kg P 532)) (tl (o_500 P))) (tn (kg P 248) (tl (kg P 376)) .nil))))) (tn (o_438 P) (tn (kg P 20) (tn (kg P 532) (tn (kg P 532) (tn (kg P 532) (tl (kg P 532)) (tl (o_448 P))) (tn (kg P 196) (tl (o_382 P)) (tl (kg P 452)))) (tn (kg P 100) (tn (kg P 532) (tl (o_348 P)) (tl (kg P 420))) (tn (kg P 532) (tl (kg P 356)) .nil))) (tn (o_96 P) (tn (o_134 P) (tn (kg P 148) (tl (kg P 276)) (tl (kg P 532))) (tn (kg P 212) (tl (kg P 532)) .nil)) (tn (o_168 P) (tn (o_232 P) (tl (kg P 308)) (tl (kg P 532))) (tn (kg P 244) (tl (kg P 372)) .nil)))) (tn (kg P 532) (tn (o_88 P) (tn (o_126 P) (tn (o_192 P) (tl (o_324 P)) (tl (kg P 396))) (tn (kg P 532) (tl (kg P 332)) .nil)) (tn (kg P 532) (tn (o_224 P) (tl (kg P 300)) (tl (kg P 428))) (tn (o_290 P) (tl (kg P 364)) .nil))) (tn (kg P 532) (tn (kg P 92) (tn (kg P 156) (tl (kg P 532)) (tl (o_472 P))) (tn (kg P 220) (tl (o_406 P)) .nil)) (tn (kg P 124) (tn (o_242 P) (tl (kg P 532)) (tl (o_504 P))) (tn (kg P 252) (tl (o_440 P)) .nil)))))) (tn (boot_o_6 P) (tn (boot_o_10 P) (tn (kg P 532) (tn (o_78 P) (tn (o_116 P) (tn (o_182 P) (tl (kg P 258)) (tl (kg P 386))) (tn (o_248 P) (tl (kg P 322)) (tl (kg P 450)))) (tn (o_148 P) (tn (kg P 162) (tl (kg P 290)) (tl (kg P 532))) (tn (o_280 P) (tl (kg P 532)) .nil))) (tn (kg P 50) (tn (kg P 82) (tn (kg P 532) (tl (kg P 532)) (tl (o_462 P))) (tn (kg P 210) (tl (o_396 P)) .nil)) (tn (kg P 114) (tn (kg P 178) (tl (o_362 P)) (tl (kg P 434))) (tn (kg P 532) (tl (kg P 370)) .nil)))) (tn (o_70 P) (tn (kg P 42) (tn (kg P 74) (tn (kg P 138) (tl (kg P 266)) (tl (kg P 532))) (tn (kg P 202) (tl (kg P 532)) .nil)) (tn (kg P 106) (tn (kg P 170) (tl (kg P 532)) (tl (o_486 P))) (tn (kg P 234) (tl (o_420 P)) .nil))) (tn (o_105 P) (tn (kg P 532) (tn (o_206 P) (tl (o_338 P)) (tl (kg P 410))) (tn (kg P 532) (tl (kg P 346)) .nil)) (tn (kg P 532) (tn (kg P 532) (tl (kg P 314)) (tl (kg P 442))) (tn (o_306 P) (tl (o_436 P)) .nil))))) (tn (o_46 P) (tn (kg P 22) (tn (kg P 38) (tn (o_120 P) (tn (kg P 134) (tl (kg P 262)) (tl (kg P 532))) (tn (o_252 P) (tl (kg P 532)) (tl (o_514 P)))) (tn (o_152 P) (tn (kg P 166) (tl (kg P 294)) (tl (kg P 532))) (tn (kg P 230) (tl (kg P 532)) .nil))) (tn (o_101 P) (tn (kg P 86) (tn (kg P 532) (tl (o_334 P)) (tl (kg P 406))) (tn (kg P 214) (tl (kg P 342)) .nil)) (tn (kg P 532) (tn (kg P 182) (tl (o_366 P)) (tl (kg P 438))) (tn (kg P 532) (tl (kg P 374)) .nil)))) (tn (o_74 P) (tn (kg P 46) (tn (kg P 78) (tn (kg P 142) (tl (kg P 532)) (tl (o_458 P))) (tn (kg P 206) (tl (o_392 P)) .nil)) (tn (kg P 110) (tn (kg P 174) (tl (kg P 532)) (tl (o_490 P))) (tn (kg P 238) (tl (o_424 P)) .nil))) (tn (kg P 62) (tn (kg P 532) (tn (o_210 P) (tl (kg P 286)) (tl (kg P 414))) (tn (o_276 P) (tl (kg P 350)) .nil)) (tn (o_178 P) (tn (kg P 532) (tl (kg P 318)) (tl (kg P 446))) (tn (o_310 P) (tl (kg P 532)) .nil))))))))
noncomputable def t565 (P : Params) : BT := (tn (boot_o_0 P) (tn (boot_o_1 P) (tn (o_515 P) (tn (boot_o_7 P) (tn (kg P 532) (tn (o_75 P) (tn (o_110 P) (tn (kg P 127) (tl (kg P 255)) (tl (o_443 P))) (tn (o_245 P) (tl (kg P 532)) (tl (kg P 447)))) (tn (o_145 P) (tn (kg P 159) (tl (kg P 287)) (tl (kg P 532))) (tn (kg P 223) (tl (kg P 532)) (tl (kg P 479))))) (tn (kg P 47) (tn (kg P 79) (tn (kg P 532) (tl (o_327 P)) (tl (kg P 399))) (tn (kg P 532) (tl (kg P 335)) (tl (kg P 532)))) (tn (kg P 532) (tn (kg P 175) (tl (o_359 P)) (tl (kg P 431))) (tn (kg P 532) (tl (kg P 367)) (tl (kg P 495)))))) (tn (kg P 23) (tn (kg P 39) (tn (o_121 P) (tn (kg P 135) (tl (kg P 532)) (tl (o_451 P))) (tn (kg P 199) (tl (o_385 P)) (tl (kg P 455)))) (tn (kg P 103) (tn (kg P 532) (tl (kg P 532)) (tl (o_483 P))) (tn (kg P 231) (tl (o_417 P)) (tl (kg P 487))))) (tn (o_102 P) (tn (kg P 532) (tn (o_203 P) (tl (kg P 279)) (tl (kg P 407))) (tn (kg P 215) (tl (kg P 343)) (tl (o_534 P)))) (tn (o_171 P) (tn (kg P 532) (tl (kg P 311)) (tl (kg P 532))) (tn (o_303 P) (tl (kg P 375)) .nil))))) (tn (kg P 532) (tn (o_55 P) (tn (kg P 35) (tn (o_117 P) (tn (kg P 131) (tl (kg P 259)) (tl (kg P 532))) (tn (kg P 195) (tl (kg P 532)) (tl (kg P 451)))) (tn (kg P 99) (tn (kg P 163) (tl (kg P 532)) (tl (o_479 P))) (tn (kg P 227) (tl (o_413 P)) (tl (o_546 P))))) (tn (o_95 P) (tn (kg P 532) (tn (o_199 P) (tl (o_331 P)) (tl (kg P 403))) (tn (kg P 532) (tl (kg P 339)) (tl (o_530 P)))) (tn (kg P 532) (tn (kg P 532) (tl (kg P 307)) (tl (kg P 435))) (tn (o_299 P) (tl (kg P 371)) (tl (kg P 532)))))) (tn (o_71 P) (tn (kg P 532) (tn (o_125 P) (tn (kg P 532) (tl (kg P 532)) (tl (o_455 P))) (tn (kg P 203) (tl (o_389 P)) (tl (o_522 P)))) (tn (kg P 107) (tn (kg P 532) (tl (o_355 P)) (tl (kg P 427))) (tn (kg P 532) (tl (kg P 363)) (tl (kg P 532))))) (tn (o_106 P) (tn (o_141 P) (tn (kg P 155) (tl (kg P 283)) (tl (kg P 532))) (tn (o_273 P) (tl (kg P 532)) (tl (kg P 475)))) (tn (o_175 P) (tn (o_241 P) (tl (kg P 315)) (tl (kg P 532))) (tn (kg P 251) (tl (kg P 532)) .nil)))))) (tn (boot_o_5 P) (tn (boot_o_9 P) (tn (kg P 17) (tn (kg P 532) (tn (kg P 65) (tn (kg P 532) (tl (o_313 P)) (tl (o_445 P))) (tn (kg P 532) (tl (kg P 321)) (tl (kg P 449)))) (tn (kg P 532) (tn (o_213 P) (tl (o_345 P)) (tl (kg P 417))) (tn (kg P 532) (tl (kg P 353)) (tl (o_544 P))))) (tn (kg P 49) (tn (o_131 P) (tn (kg P 145) (tl (kg P 273)) (tl (kg P 532))) (tn (kg P 209) (tl (kg P 532)) (tl (kg P 465)))) (tn (kg P 113) (tn (o_229 P) (tl (kg P 532)) (tl (o_493 P))) (tn (kg P 241) (tl (o_427 P)) (tl (o_560 P)))))) (tn (kg P 25) (tn (o_85 P) (tn (kg P 73) (tn (o_189 P) (tl (kg P 265)) (tl (kg P 393))) (tn (o_255 P) (tl (o_387 P)) (tl (o_520 P)))) (tn (o_155 P) (tn (kg P 169) (tl (kg P 297)) (tl (kg P 532))) (tn (o_287 P) (tl (kg P 532)) (tl (kg P 532))))) (tn (o_104 P) (tn (kg P 89) (tn (kg P 532) (tl (kg P 532)) (tl (o_469 P))) (tn (o_271 P) (tl (o_403 P)) (tl (kg P 532)))) (tn (kg P 121) (tn (o_239 P) (tl (o_369 P)) (tl (kg P 441))) (tn (kg P 532) (tl (o_435 P)) .nil))))) (tn (o_45 P) (tn (kg P 21) (tn (o_81 P) (tn (o_119 P) (tn (o_185 P) (tl (o_317 P)) (tl (kg P 389))) (tn (kg P 532) (tl (o_383 P)) (tl (o_513 P)))) (tn (kg P 532) (tn (o_217 P) (tl (kg P 293)) (tl (kg P 421))) (tn (o_283 P) (tl (kg P 357)) (tl (kg P 532))))) (tn (kg P 65) (tn (kg P 85) (tn (kg P 149) (tl (kg P 532)) (tl (o_465 P))) (tn (kg P 213) (tl (o_399 P)) (tl (kg P 469)))) (tn (kg P 117) (tn (kg P 181) (tl (kg P 532)) (tl (o_497 P))) (tn (kg P 245) (tl (kg P 373)) (tl (kg P 501)))))) (tn (o_73 P) (tn (kg P 45) (tn (kg P 77) (tn (kg P 141) (tl (kg P 269)) (tl (kg P 532))) (tn (o_259 P) (tl (kg P 532)) (tl (o_524 P)))) (tn (o_161 P) (tn (o_225 P) (tl (kg P 301)) (tl (kg P 532))) (tn (kg P 237) (tl (kg P 532)) (tl (o_556 P))))) (tn (kg P 61) (tn (kg P 93) (tn (kg P 532) (tl (o_341 P)) (tl (kg P 413))) (tn (kg P 532) (tl (kg P 349)) (tl (kg P 477)))) (tn (kg P 532) (tn (o_243 P) (tl (o_373 P)) (tl (o_505 P))) (tn (kg P 532) (tl (o_441 P)) .nil))))))) (tn (kg P 2) (tn (boot_o_4 P) (tn (boot_o_8 P) (tn (o_52 P) (tn (kg P 32) (tn (o_111 P) (tn (kg P 128) (tl (kg P 532)) (tl (o_444 P))) (tn (kg P 192) (tl (o_376 P)) (tl (kg P 448)))) (tn (kg P 96) (tn (kg P 532) (tl (kg P 532)) (tl (o_476 P))) (tn (kg P 224) (tl (o_410 P)) (tl (o_543 P))))) (tn (kg P 48) (tn (kg P 532) (tn (o_196 P) (tl (kg P 272)) (tl (kg P 400))) (tn (o_262 P) (tl (kg P 336)) (tl (o_527 P)))) (tn (o_164 P) (tn (kg P 532) (tl (kg P 304)) (tl (kg P 532))) (tn (o_296 P) (tl (kg P 532)) (tl (kg P 532)))))) (tn (kg P 24) (tn (kg P 532) (tn (kg P 532) (tn (kg P 532) (tl (o_320 P)) (tl (kg P 392))) (tn (kg P 532) (tl (o_386 P)) (tl (o_519 P)))) (tn (kg P 532) (tn (o_220 P) (tl (o_352 P)) (tl (kg P 424))) (tn (kg P 532) (tl (kg P 360)) (tl (kg P 488))))) (tn (kg P 532) (tn (o_138 P) (tn (kg P 152) (tl (kg P 280)) (tl (kg P 532))) (tn (o_270 P) (tl (kg P 532)) (tl (kg P 472)))) (tn (kg P 120) (tn (o_238 P) (tl (kg P 532)) (tl (o_500 P))) (tn (kg P 248) (tl (kg P 376)) .nil))))) (tn (o_516 P) (tn (kg P 20) (tn (kg P 532) (tn (kg P 532) (tn (kg P 532) (tl (kg P 532)) (tl (o_448 P))) (tn (kg P 196) (tl (o_382 P)) (tl (kg P 452)))) (tn (kg P 100) (tn (kg P 532) (tl (o_348 P)) (tl (kg P 420))) (tn (kg P 532) (tl (kg P 356)) (tl (kg P 484))))) (tn (o_96 P) (tn (o_134 P) (tn (kg P 148) (tl (kg P 276)) (tl (kg P 532))) (tn (kg P 212) (tl (kg P 532)) (tl (kg P 468)))) (tn (o_168 P) (tn (o_232 P) (tl (kg P 308)) (tl (kg P 532))) (tn (kg P 244) (tl (kg P 372)) (tl (o_563 P)))))) (tn (kg P 532) (tn (o_88 P) (tn (o_126 P) (tn (o_192 P) (tl (o_324 P)) (tl (kg P 396))) (tn (kg P 532) (tl (kg P 332)) (tl (o_523 P)))) (tn (kg P 532) (tn (o_224 P) (tl (kg P 300)) (tl (kg P 428))) (tn (o_290 P) (tl (kg P 364)) (tl (kg P 532))))) (tn (kg P 532) (tn (kg P 92) (tn (kg P 156) (tl (kg P 532)) (tl (o_472 P))) (tn (kg P 220) (tl (o_406 P)) (tl (kg P 476)))) (tn (kg P 124) (tn (o_242 P) (tl (kg P 532)) (tl (o_504 P))) (tn (kg P 252) (tl (o_440 P)) .nil)))))) (tn (boot_o_6 P) (tn (boot_o_10 P) (tn (kg P 532) (tn (o_78 P) (tn (o_116 P) (tn (o_182 P) (tl (kg P 258)) (tl (kg P 386))) (tn (o_248 P) (tl (kg P 322)) (tl (kg P 450)))) (tn (o_148 P) (tn (kg P 162) (tl (kg P 290)) (tl (kg P 532))) (tn (o_280 P) (tl (kg P 532)) (tl (kg P 532))))) (tn (kg P 50) (tn (kg P 82) (tn (kg P 532) (tl (kg P 532)) (tl (o_462 P))) (tn (kg P 210) (tl (o_396 P)) (tl (kg P 532)))) (tn (kg P 114) (tn (kg P 178) (tl (o_362 P)) (tl (kg P 434))) (tn (kg P 532) (tl (kg P 370)) (tl (kg P 498)))))) (tn (o_70 P) (tn (kg P 42) (tn (kg P 74) (tn (kg P 138) (tl (kg P 266)) (tl (kg P 532))) (tn (kg P 202) (tl (kg P 532)) (tl (kg P 532)))) (tn (kg P 106) (tn (kg P 170) (tl (kg P 532)) (tl (o_486 P))) (tn (kg P 234) (tl (o_420 P)) (tl (o_553 P))))) (tn (o_105 P) (tn (kg P 532) (tn (o_206 P) (tl (o_338 P)) (tl (kg P 410))) (tn (kg P 532) (tl (kg P 346)) (tl (o_537 P)))) (tn (kg P 532) (tn (kg P 532) (tl (kg P 314)) (tl (kg P 442))) (tn (o_306 P) (tl (o_436 P)) .nil))))) (tn (o_46 P) (tn (kg P 22) (tn (kg P 38) (tn (o_120 P) (tn (kg P 134) (tl (kg P 262)) (tl (kg P 532))) (tn (o_252 P) (tl (kg P 532)) (tl (o_514 P)))) (tn (o_152 P) (tn (kg P 166) (tl (kg P 294)) (tl (kg P 532))) (tn (kg P 230) (tl (kg P 532)) (tl (o_549 P))))) (tn (o_101 P) (tn (kg P 86) (tn (kg P 532) (tl (o_334 P)) (tl (kg P 406))) (tn (kg P 214) (tl (kg P 342)) (tl (kg P 532)))) (tn (kg P 532) (tn (kg P 182) (tl (o_366 P)) (tl (kg P 438))) (tn (kg P 532) (tl (kg P 374)) (tl (kg P 502)))))) (tn (o_74 P) (tn (kg P 46) (tn (kg P 78) (tn (kg P 142) (tl (kg P 532)) (tl (o_458 P))) (tn (kg P 206) (tl (o_392 P)) (tl (kg P 462)))) (tn (kg P 110) (tn (kg P 174) (tl (kg P 532)) (tl (o_490 P))) (tn (kg P 238) (tl (o_424 P)) (tl (kg P 494))))) (tn (kg P 62) (tn (kg P 532) (tn (o_210 P) (tl (kg P 286)) (tl (kg P 414))) (tn (o_276 P) (tl (kg P 350)) (tl (kg P 478)))) (tn (o_178 P) (tn (kg P 532) (tl (kg P 318)) (tl (kg P 446))) (tn (o_310 P) (tl (kg P 532)) .nil))))))))
noncomputable def t600 (P : Params) : BT := (tn (boot_o_0 P) (tn (boot_o_1 P) (tn (kg P 3) (tn (boot_o_7 P) (tn (kg P 532) (tn (o_75 P) (tn (o_110 P) (tn (kg P 127) (tn (kg P 255) (tl (o_576 P)) .nil) (tl (o_443 P))) (tn (o_245 P) (tl (kg P 532)) (tl (kg P 447)))) (tn (o_145 P) (tn (kg P 159) (tl (kg P 287)) (tl (kg P 532))) (tn (kg P 223) (tl (kg P 532)) (tl (kg P 479))))) (tn (kg P 47) (tn (kg P 79) (tn (kg P 532) (tn (o_327 P) (tl (kg P 527)) .nil) (tl (kg P 399))) (tn (kg P 532) (tl (kg P 335)) (tl (kg P 532)))) (tn (kg P 532) (tn (kg P 175) (tl (o_359 P)) (tl (kg P 431))) (tn (kg P 532) (tl (kg P 367)) (tl (kg P 495)))))) (tn (kg P 23) (tn (kg P 39) (tn (o_121 P) (tn (kg P 135) (tn (kg P 532) (tl (kg P 519)) .nil) (tl (o_451 P))) (tn (kg P 199) (tl (o_385 P)) (tl (kg P 455)))) (tn (kg P 103) (tn (kg P 532) (tl (kg P 532)) (tl (o_483 P))) (tn (kg P 231) (tl (o_417 P)) (tl (kg P 487))))) (tn (o_102 P) (tn (kg P 532) (tn (o_203 P) (tn (kg P 279) (tl (kg P 535)) .nil) (tl (kg P 407))) (tn (kg P 215) (tl (kg P 343)) (tl (o_534 P)))) (tn (o_171 P) (tn (kg P 532) (tl (kg P 311)) (tl (kg P 532))) (tn (o_303 P) (tl (kg P 375)) (tl (kg P 532))))))) (tn (kg P 532) (tn (o_55 P) (tn (kg P 35) (tn (o_117 P) (tn (kg P 131) (tn (kg P 259) (tl (kg P 515)) .nil) (tl (kg P 532))) (tn (kg P 195) (tl (kg P 532)) (tl (kg P 451)))) (tn (kg P 99) (tn (kg P 163) (tl (kg P 532)) (tl (o_479 P))) (tn (kg P 227) (tl (o_413 P)) (tl (o_546 P))))) (tn (o_95 P) (tn (kg P 532) (tn (o_199 P) (tn (o_331 P) (tl (kg P 531)) .nil) (tl (kg P 403))) (tn (kg P 532) (tl (kg P 339)) (tl (o_530 P)))) (tn (kg P 532) (tn (kg P 532) (tl (kg P 307)) (tl (kg P 435))) (tn (o_299 P) (tl (kg P 371)) (tl (kg P 532)))))) (tn (o_71 P) (tn (kg P 532) (tn (o_125 P) (tn (kg P 532) (tn (kg P 532) (tl (kg P 523)) .nil) (tl (o_455 P))) (tn (kg P 203) (tl (o_389 P)) (tl (o_522 P)))) (tn (kg P 107) (tn (kg P 532) (tl (o_355 P)) (tl (kg P 427))) (tn (kg P 532) (tl (kg P 363)) (tl (kg P 532))))) (tn (o_106 P) (tn (o_141 P) (tn (kg P 155) (tl (kg P 283)) (tl (kg P 532))) (tn (o_273 P) (tl (kg P 532)) (tl (kg P 475)))) (tn (o_175 P) (tn (o_241 P) (tl (kg P 315)) (tl (kg P 532))) (tn (kg P 251) (tl (kg P 532)) (tl (o_572 P)))))))) (tn (boot_o_5 P) (tn (boot_o_9 P) (tn (kg P 17) (tn (kg P 532) (tn (kg P 65) (tn (kg P 532) (tn (o_313 P) (tl (kg P 532)) .nil) (tl (o_445 P))) (tn (kg P 532) (tl (kg P 321)) (tl (kg P 449)))) (tn (kg P 532) (tn (o_213 P) (tl (o_345 P)) (tl (kg P 417))) (tn (kg P 532) (tl (kg P 353)) (tl (o_544 P))))) (tn (kg P 49) (tn (o_131 P) (tn (kg P 145) (tn (kg P 273) (tl (kg P 532)) .nil) (tl (kg P 532))) (tn (kg P 209) (tl (kg P 532)) (tl (kg P 465)))) (tn (kg P 113) (tn (o_229 P) (tl (kg P 532)) (tl (o_493 P))) (tn (kg P 241) (tl (o_427 P)) (tl (o_560 P)))))) (tn (kg P 25) (tn (o_85 P) (tn (kg P 73) (tn (o_189 P) (tn (kg P 265) (tl (o_586 P)) .nil) (tl (kg P 393))) (tn (o_255 P) (tl (o_387 P)) (tl (o_520 P)))) (tn (o_155 P) (tn (kg P 169) (tl (kg P 297)) (tl (kg P 532))) (tn (o_287 P) (tl (kg P 532)) (tl (kg P 532))))) (tn (o_104 P) (tn (kg P 89) (tn (kg P 532) (tl (kg P 532)) (tl (o_469 P))) (tn (o_271 P) (tl (o_403 P)) (tl (kg P 532)))) (tn (kg P 121) (tn (o_239 P) (tl (o_369 P)) (tl (kg P 441))) (tn (kg P 532) (tl (o_435 P)) (tl (kg P 505))))))) (tn (o_45 P) (tn (kg P 21) (tn (o_81 P) (tn (o_119 P) (tn (o_185 P) (tn (o_317 P) (tl (kg P 532)) .nil) (tl (kg P 389))) (tn (kg P 532) (tl (o_383 P)) (tl (o_513 P)))) (tn (kg P 532) (tn (o_217 P) (tl (kg P 293)) (tl (kg P 421))) (tn (o_283 P) (tl (kg P 357)) (tl (kg P 532))))) (tn (kg P 65) (tn (kg P 85) (tn (kg P 149) (tn (kg P 532) (tl (o_598 P)) .nil) (tl (o_465 P))) (tn (kg P 213) (tl (o_399 P)) (tl (kg P 469)))) (tn (kg P 117) (tn (kg P 181) (tl (kg P 532)) (tl (o_497 P))) (tn (kg P 245) (tl (kg P 373)) (tl (kg P 501)))))) (tn (o_73 P) (tn (kg P 45) (tn (kg P 77) (tn (kg P 141) (tn (kg P 269) (tl (o_590 P)) .nil) (tl (kg P 532))) (tn (o_259 P) (tl (kg P 532)) (tl (o_524 P)))) (tn (o_161 P) (tn (o_225 P) (tl (kg P 301)) (tl (kg P 532))) (tn (kg P 237) (tl (kg P 532)) (tl (o_556 P))))) (tn (kg P 61) (tn (kg P 93) (tn (kg P 532) (tl (o_341 P)) (tl (kg P 413))) (tn (kg P 532) (tl (kg P 349)) (tl (kg P 477)))) (tn (kg P 532) (tn (o_243 P) (tl (o_373 P)) (tl (o_505 P))) (tn (kg P 532) (tl (o_441 P)) (tl (kg P 509))))))))) (tn (kg P 2) (tn (boot_o_4 P) (tn (boot_o_8 P) (tn (o_52 P) (tn (kg P 32) (tn (o_111 P) (tn (kg P 128) (tn (kg P 532) (tl (kg P 512)) .nil) (tl (o_444 P))) (tn (kg P 192) (tl (o_376 P)) (tl (kg P 448)))) (tn (kg P 96) (tn (kg P 532) (tl (kg P 532)) (tl (o_476 P))) (tn (kg P 224) (tl (o_410 P)) (tl (o_543 P))))) (tn (kg P 48) (tn (kg P 532) (tn (o_196 P) (tn (kg P 272) (tl (kg P 528)) .nil) (tl (kg P 400))) (tn (o_262 P) (tl (kg P 336)) (tl (o_527 P)))) (tn (o_164 P) (tn (kg P 532) (tl (kg P 304)) (tl (kg P 532))) (tn (o_296 P) (tl (kg P 532)) (tl (kg P 532)))))) (tn (kg P 24) (tn (kg P 532) (tn (kg P 532) (tn (kg P 532) (tn (o_320 P) (tl (kg P 532)) .nil) (tl (kg P 392))) (tn (kg P 532) (tl (o_386 P)) (tl (o_519 P)))) (tn (kg P 532) (tn (o_220 P) (tl (o_352 P)) (tl (kg P 424))) (tn (kg P 532) (tl (kg P 360)) (tl (kg P 488))))) (tn (kg P 532) (tn (o_138 P) (tn (kg P 152) (tl (kg P 280)) (tl (kg P 532))) (tn (o_270 P) (tl (kg P 532)) (tl (kg P 472)))) (tn (kg P 120) (tn (o_238 P) (tl (kg P 532)) (tl (o_500 P))) (tn (kg P 248) (tl (kg P 376)) (tl (o_569 P))))))) (tn (o_567 P) (tn (kg P 20) (tn (kg P 532) (tn (kg P 532) (tn (kg P 532) (tn (kg P 532) (tl (kg P 516)) .nil) (tl (o_448 P))) (tn (kg P 196) (tl (o_382 P)) (tl (kg P 452)))) (tn (kg P 100) (tn (kg P 532) (tl (o_348 P)) (tl (kg P 420))) (tn (kg P 532) (tl (kg P 356)) (tl (kg P 484))))) (tn (o_96 P) (tn (o_134 P) (tn (kg P 148) (tn (kg P 276) (tl (kg P 532)) .nil) (tl (kg P 532))) (tn (kg P 212) (tl (kg P 532)) (tl (kg P 468)))) (tn (o_168 P) (tn (o_232 P) (tl (kg P 308)) (tl (kg P 532))) (tn (kg P 244) (tl (kg P 372)) (tl (o_563 P)))))) (tn (kg P 532) (tn (o_88 P) (tn (o_126 P) (tn (o_192 P) (tn (o_324 P) (tl (kg P 532)) .nil) (tl (kg P 396))) (tn (kg P 532) (tl (kg P 332)) (tl (o_523 P)))) (tn (kg P 532) (tn (o_224 P) (tl (kg P 300)) (tl (kg P 428))) (tn (o_290 P) (tl (kg P 364)) (tl (kg P 532))))) (tn (kg P 532) (tn (kg P 92) (tn (kg P 156) (tl (kg P 532)) (tl (o_472 P))) (tn (kg P 220) (tl (o_406 P)) (tl (kg P 476)))) (tn (kg P 124) (tn (o_242 P) (tl (kg P 532)) (tl (o_504 P))) (tn (kg P 252) (tl (o_440 P)) (tl (kg P 508)))))))) (tn (boot_o_6 P) (tn (boot_o_10 P) (tn (kg P 532) (tn (o_78 P) (tn (o_116 P) (tn (o_182 P) (tn (kg P 258) (tl (o_579 P)) .nil) (tl (kg P 386))) (tn (o_248 P) (tl (kg P 322)) (tl (kg P 450)))) (tn (o_148 P) (tn (kg P 162) (tl (kg P 290)) (tl (kg P 532))) (tn (o_280 P) (tl (kg P 532)) (tl (kg P 532))))) (tn (kg P 50) (tn (kg P 82) (tn (kg P 532) (tn (kg P 532) (tl (o_595 P)) .nil) (tl (o_462 P))) (tn (kg P 210) (tl (o_396 P)) (tl (kg P 532)))) (tn (kg P 114) (tn (kg P 178) (tl (o_362 P)) (tl (kg P 434))) (tn (kg P 532) (tl (kg P 370)) (tl (kg P 498)))))) (tn (o_70 P) (tn (kg P 42) (tn (kg P 74) (tn (kg P 138) (tn (kg P 266) (tl (kg P 522)) .nil) (tl (kg P 532))) (tn (kg P 202) (tl (kg P 532)) (tl (kg P 532)))) (tn (kg P 106) (tn (kg P 170) (tl (kg P 532)) (tl (o_486 P))) (tn (kg P 234) (tl (o_420 P)) (tl (o_553 P))))) (tn (o_105 P) (tn (kg P 532) (tn (o_206 P) (tl (o_338 P)) (tl (kg P 410))) (tn (kg P 532) (tl (kg P 346)) (tl (o_537 P)))) (tn (kg P 532) (tn (kg P 532) (tl (kg P 314)) (tl (kg P 442))) (tn (o_306 P) (tl (o_436 P)) (tl (kg P 532))))))) (tn (o_46 P) (tn (kg P 22) (tn (kg P 38) (tn (o_120 P) (tn (kg P 134) (tn (kg P 262) (tl (o_583 P)) .nil) (tl (kg P 532))) (tn (o_252 P) (tl (kg P 532)) (tl (o_514 P)))) (tn (o_152 P) (tn (kg P 166) (tl (kg P 294)) (tl (kg P 532))) (tn (kg P 230) (tl (kg P 532)) (tl (o_549 P))))) (tn (o_101 P) (tn (kg P 86) (tn (kg P 532) (tn (o_334 P) (tl (kg P 534)) .nil) (tl (kg P 406))) (tn (kg P 214) (tl (kg P 342)) (tl (kg P 532)))) (tn (kg P 532) (tn (kg P 182) (tl (o_366 P)) (tl (kg P 438))) (tn (kg P 532) (tl (kg P 374)) (tl (kg P 502)))))) (tn (o_74 P) (tn (kg P 46) (tn (kg P 78) (tn (kg P 142) (tn (kg P 532) (tl (o_591 P)) .nil) (tl (o_458 P))) (tn (kg P 206) (tl (o_392 P)) (tl (kg P 462)))) (tn (kg P 110) (tn (kg P 174) (tl (kg P 532)) (tl (o_490 P))) (tn (kg P 238) (tl (o_424 P)) (tl (kg P 494))))) (tn (kg P 62) (tn (kg P 532) (tn (o_210 P) (tl (kg P 286)) (tl (kg P 414))) (tn (o_276 P) (tl (kg P 350)) (tl (kg P 478)))) (tn (o_178 P) (tn (kg P 532) (tl (kg P 318)) (tl (kg P 446))) (tn (o_310 P) (tl (kg P 532)) (tl (kg P 532))))))))))
noncomputable def hEnd (P : Params) : Heap := .mk (.mk ((boot_o_0 P) :: (boot_o_1 P) :: (kg P 2) :: (kg P 3) :: (boot_o_4 P) :: (boot_o_5 P) :: (boot_o_6 P) :: (boot_o_7 P) :: (boot_o_8 P) :: (boot_o_9 P) :: (boot_o_10 P) :: (kg P 532) :: (o_567 P) :: (o_45 P) :: (o_46 P) :: (kg P 532) :: (o_52 P) :: (kg P 17) :: (kg P 532) :: (o_55 P) :: (kg P 20) :: (kg P 21) :: (kg P 22) :: (kg P 23) :: (kg P 24) :: (kg P 25) :: (o_70 P) :: (o_71 P) :: (kg P 532) :: (o_73 P) :: (o_74 P) :: (o_75 P) :: (kg P 32) :: (kg P 532) :: (o_78 P) :: (kg P 35) :: (kg P 532) :: (o_81 P) :: (kg P 38) :: (kg P 39) :: (kg P 532) :: (o_85 P) :: (kg P 42) :: (kg P 532) :: (o_88 P) :: (kg P 45) :: (kg P 46) :: (kg P 47) :: (kg P 48) :: (kg P 49) :: (kg P 50) :: (o_95 P) :: (o_96 P) :: (kg P 65) :: (o_101 P) :: (o_102 P) :: (kg P 532) :: (o_104 P) :: (o_105 P) :: (o_106 P) :: (kg P 532) :: (kg P 61) :: (kg P 62) :: (o_110 P) :: (o_111 P) :: (kg P 65) :: (o_116 P) :: (o_117 P) :: (kg P 532) :: (o_119 P) :: (o_120 P) :: (o_121 P) :: (kg P 532) :: (kg P 73) :: (kg P 74) :: (o_125 P) :: (o_126 P) :: (kg P 77) :: (kg P 78) :: (kg P 79) :: (kg P 532) :: (o_131 P) :: (kg P 82) :: (kg P 532) :: (o_134 P) :: (kg P 85) :: (kg P 86) :: (kg P 532) :: (o_138 P) :: (kg P 89) :: (kg P 532) :: (o_141 P) :: (kg P 92) :: (kg P 93) :: (kg P 532) :: (o_145 P) :: (kg P 96) :: (kg P 532) :: (o_148 P) :: (kg P 99) :: (kg P 100) :: (kg P 532) :: (o_152 P) :: (kg P 103) :: (kg P 532) :: (o_155 P) :: (kg P 106) :: (kg P 107) :: (kg P 532) :: (o_161 P) :: (kg P 110) :: (kg P 532) :: (o_164 P) :: (kg P 113) :: (kg P 114) :: (kg P 532) :: (o_168 P) :: (kg P 117) :: (kg P 532) :: (o_171 P) :: (kg P 120) :: (kg P 121) :: (kg P 532) :: (o_175 P) :: (kg P 124) :: (kg P 532) :: (o_178 P) :: (kg P 127) :: (kg P 128) :: (kg P 532) :: (o_182 P) :: (kg P 131) :: (kg P 532) :: (o_185 P) :: (kg P 134) :: (kg P 135) :: (kg P 532) :: (o_189 P) :: (kg P 138) :: (kg P 532) :: (o_192 P) :: (kg P 141) :: (kg P 142) :: (kg P 532) :: (o_196 P) :: (kg P 145) :: (kg P 532) :: (o_199 P) :: (kg P 148) :: (kg P 149) :: (kg P 532) :: (o_203 P) :: (kg P 152) :: (kg P 532) :: (o_206 P) :: (kg P 155) :: (kg P 156) :: (kg P 532) :: (o_210 P) :: (kg P 159) :: (kg P 532) :: (o_213 P) :: (kg P 162) :: (kg P 163) :: (kg P 532) :: (o_217 P) :: (kg P 166) :: (kg P 532) :: (o_220 P) :: (kg P 169) :: (kg P 170) :: (kg P 532) :: (o_224 P) :: (o_225 P) :: (kg P 174) :: (kg P 175) :: (kg P 532) :: (o_229 P) :: (kg P 178) :: (kg P 532) :: (o_232 P) :: (kg P 181) :: (kg P 182) :: (kg P 532) :: (o_238 P) :: (o_239 P) :: (kg P 532) :: (o_241 P) :: (o_242 P) :: (o_243 P) :: (kg P 532) :: (o_245 P) :: (kg P 192) :: (kg P 532) :: (o_248 P) :: (kg P 195) :: (kg P 196) :: (kg P 532) :: (o_252 P) :: (kg P 199) :: (kg P 532) :: (o_255 P) :: (kg P 202) :: (kg P 203) :: (kg P 532) :: (o_259 P) :: (kg P 206) :: (kg P 532) :: (o_262 P) :: (kg P 209) :: (kg P 210) :: (kg P 532) :: (kg P 212) :: (kg P 213) :: (kg P 214) :: (kg P 215) :: (o_270 P) :: (o_271 P) :: (kg P 532) :: (o_273 P) :: (kg P 220) :: (kg P 532) :: (o_276 P) :: (kg P 223) :: (kg P 224) :: (kg P 532) :: (o_280 P) :: (kg P 227) :: (kg P 532) :: (o_283 P) :: (kg P 230) :: (kg P 231) :: (kg P 532) :: (o_287 P) :: (kg P 234) :: (kg P 532) :: (o_290 P) :: (kg P 237) :: (kg P 238) :: (kg P 532) :: (o_296 P) :: (kg P 241) :: (kg P 532) :: (o_299 P) :: (kg P 244) :: (kg P 245) :: (kg P 532) :: (o_303 P) :: (kg P 248) :: (kg P 532) :: (o_306 P) :: (kg P 251) :: (kg P 252) :: (kg P 532) :: (o_310 P) :: (kg P 255) :: (kg P 532) :: (o_313 P) :: (kg P 258) :: (kg P 259) :: (kg P 532) :: (o_317 P) :: (kg P 262) :: (kg P 532) :: (o_320 P) :: (kg P 265) :: (kg P 266) :: (kg P 532) :: (o_324 P) :: (kg P 269) :: (kg P 532) :: (o_327 P) :: (kg P 272) :: (kg P 273) :: (kg P 532) :: (o_331 P) :: (kg P 276) :: (kg P 532) :: (o_334 P) :: (kg P 279) :: (kg P 280) :: (kg P 532) :: (o_338 P) :: (kg P 283) :: (kg P 532) :: (o_341 P) :: (kg P 286) :: (kg P 287) :: (kg P 532) :: (o_345 P) :: (kg P 290) :: (kg P 532) :: (o_348 P) :: (kg P 293) :: (kg P 294) :: (kg P 532) :: (o_352 P) :: (kg P 297) :: (kg P 532) :: (o_355 P) :: (kg P 300) :: (kg P 301) :: (kg P 532) :: (o_359 P) :: (kg P 304) :: (kg P 532) :: (o_362 P) :: (kg P 307) :: (kg P 308) :: (kg P 532) :: (o_366 P) :: (kg P 311) :: (kg P 532) :: (o_369 P) :: (kg P 314) :: (kg P 315) :: (kg P 532) :: (o_373 P) :: (kg P 318) :: (kg P 532) :: (o_376 P) :: (kg P 321) :: (kg P 322) :: (kg P 532) :: (o_382 P) :: (o_383 P) :: (kg P 532) :: (o_385 P) :: (o_386 P) :: (o_387 P) :: (kg P 532) :: (o_389 P) :: (kg P 332) :: (kg P 532) :: (o_392 P) :: (kg P 335) :: (kg P 336) :: (kg P 532) :: (o_396 P) :: (kg P 339) :: (kg P 532) :: (o_399 P) :: (kg P 342) :: (kg P 343) :: (kg P 532) :: (o_403 P) :: (kg P 346) :: (kg P 532) :: (o_406 P) :: (kg P 349) :: (kg P 350) :: (kg P 532) :: (o_410 P) :: (kg P 353) :: (kg P 532) :: (o_413 P) :: (kg P 356) :: (kg P 357) :: (kg P 532) :: (o_417 P) :: (kg P 360) :: (kg P 532) :: (o_420 P) :: (kg P 363) :: (kg P 364) :: (kg P 532) :: (o_424 P) :: (kg P 367) :: (kg P 532) :: (o_427 P) :: (kg P 370) :: (kg P 371) :: (kg P 372) :: (kg P 373) :: (kg P 374) :: (kg P 375) :: (kg P 376) :: (o_435 P) :: (o_436 P) :: (kg P 532) :: (o_440 P) :: (o_441 P) :: (kg P 532) :: (o_443 P) :: (o_444 P) :: (o_445 P) :: (kg P 386) :: (kg P 532) :: (o_448 P) :: (kg P 389) :: (kg P 532) :: (o_451 P) :: (kg P 392) :: (kg P 393) :: (kg P 532) :: (o_455 P) :: (kg P 396) :: (kg P 532) :: (o_458 P) :: (kg P 399) :: (kg P 400) :: (kg P 532) :: (o_462 P) :: (kg P 403) :: (kg P 532) :: (o_465 P) :: (kg P 406) :: (kg P 407) :: (kg P 532) :: (o_469 P) :: (kg P 410) :: (kg P 532) :: (o_472 P) :: (kg P 413) :: (kg P 414) :: (kg P 532) :: (o_476 P) :: (kg P 417) :: (kg P 532) :: (o_479 P) :: (kg P 420) :: (kg P 421) :: (kg P 532) :: (o_483 P) :: (kg P 424) :: (kg P 532) :: (o_486 P) :: (kg P 427) :: (kg P 428) :: (kg P 532) :: (o_490 P) :: (kg P 431) :: (kg P 532) :: (o_493 P) :: (kg P 434) :: (kg P 435) :: (kg P 532) :: (o_497 P) :: (kg P 438) :: (kg P 532) :: (o_500 P) :: (kg P 441) :: (kg P 442) :: (kg P 532) :: (o_504 P) :: (o_505 P) :: (kg P 446) :: (kg P 447) :: (kg P 448) :: (kg P 449) :: (kg P 450) :: (kg P 451) :: (kg P 452) :: (o_513 P) :: (o_514 P) :: (kg P 455) :: (o_519 P) :: (o_520 P) :: (kg P 532) :: (o_522 P) :: (o_523 P) :: (o_524 P) :: (kg P 462) :: (kg P 532) :: (o_527 P) :: (kg P 465) :: (kg P 532) :: (o_530 P) :: (kg P 468) :: (kg P 469) :: (kg P 532) :: (o_534 P) :: (kg P 472) :: (kg P 532) :: (o_537 P) :: (kg P 475) :: (kg P 476) :: (kg P 477) :: (kg P 478) :: (kg P 479) :: (o_543 P) :: (o_544 P) :: (kg P 532) :: (o_546 P) :: (kg P 484) :: (kg P 532) :: (o_549 P) :: (kg P 487) :: (kg P 488) :: (kg P 532) :: (o_553 P) :: (kg P 532) :: (kg P 532) :: (o_556 P) :: (kg P 494) :: (kg P 495) :: (kg P 532) :: (o_560 P) :: (kg P 498) :: (kg P 532) :: (o_563 P) :: (kg P 501) :: (kg P 502) :: (kg P 532) :: (o_569 P) :: (kg P 505) :: (kg P 532) :: (o_572 P) :: (kg P 508) :: (kg P 509) :: (kg P 532) :: (o_576 P) :: (kg P 512) :: (kg P 532) :: (o_579 P) :: (kg P 515) :: (kg P 516) :: (kg P 532) :: (o_583 P) :: (kg P 519) :: (kg P 532) :: (o_586 P) :: (kg P 522) :: (kg P 523) :: (kg P 532) :: (o_590 P) :: (o_591 P) :: (kg P 527) :: (kg P 528) :: (kg P 532) :: (o_595 P) :: (kg P 531) :: (kg P 532) :: (o_598 P) :: (kg P 534) :: (kg P 535) :: [])) lf
noncomputable def h46 (P : Params) : Heap := .mk (.mk [(boot_o_0 P), (boot_o_1 P), (boot_o_2 P), (boot_o_3 P), (boot_o_4 P), (boot_o_5 P), (boot_o_6 P), (boot_o_7 P), (boot_o_8 P), (boot_o_9 P), (boot_o_10 P), (kg P 532), (o_44 P), (o_45 P), (o_46 P)]) lf
noncomputable abbrev hb : List Stmt := behindTheImports hp
noncomputable def he : Env := .mk hp.main.scope mainNs mainNs [] Str.empty none (.ref (13:Nat)) (some 14) 0
noncomputable abbrev hc : Code := .body hb he
noncomputable abbrev ts (t : Params → BT) (n k : Nat) (w : World) (os : OsState) : SharedT := ⟨t w.params, n, lf, .mk [], .mk 0 0 0 0, k, os⟩
abbrev B0 : List Frame := [topFrame ⟨0, 0, 0, 0⟩]
abbrev n6 : Option Value := some (.ref (6:Nat))
noncomputable def sts (i j : Nat) : List Stmt := (hb.drop i).take j
theorem p_pre : ∀ w : World, (fun os => topGo treeTable hp w 11 n6 12 ⟨boot_heap w.params, .mk [], boot_drawn, boot_toks, os⟩ (topStub hp)) = fun os => some (⟨h46 w.params, .mk [], .mk 0 0 0 0, 187, os⟩, ⟨denote treeTable hc, hc, ⟨0, 0, 0, 0⟩, B0⟩) := by
  intro w
  rewrite [PySem.W.Fast.te15667345088766844465, PySem.W.Fast.te14364793385576792824, PySem.W.Fast.te11892475500146522536]
  kernel_rfl
theorem p_block : ∀ w : World, (fun os => segRun treeTable hp w 11 n6 1 1 ⟨h46 w.params, .mk [], .mk 0 0 0 0, 187, os⟩ (blockOf hb he hc ⟨0, 0, 0, 0⟩ B0)) = fun os => some (.next, (ts t47 15 187 w os).abs, hc, ⟨0, 0, 0, 0⟩) := by
  intro w
  rewrite [PySem.W.Fast.te14374325043358763698, PySem.W.Fast.te14364793385576792824]
  kernel_rfl
theorem p_0 : ∀ w : World, (fun os => segRunT treeTable hp w 11 n6 1 250 (ts t47 15 187 w os) (piecesOf (sts 0 3) he hc ⟨0, 0, 0, 0⟩ B0)) = fun os => some (.next, ts t59 24 240 w os, hc, ⟨5, 0, 5, 6⟩) :=
  byRow2 "special-get-raises" (P := fun w => (fun os => segRunT treeTable hp w 11 n6 1 250 (ts t47 15 187 w os) (piecesOf (sts 0 3) he hc ⟨0, 0, 0, 0⟩ B0)) = fun os => some (.next, ts t59 24 240 w os, hc, ⟨5, 0, 5, 6⟩))
    (fun w => by
      show (fun os => segRunT treeTable hp (w.withFollow "special-get-raises" false) 11 n6 1 250 (ts t47 15 187 (w.withFollow "special-get-raises" false) os) (piecesOf (sts 0 3) he hc ⟨0, 0, 0, 0⟩ B0)) = fun os => some (.next, ts t59 24 240 (w.withFollow "special-get-raises" false) os, hc, ⟨5, 0, 5, 6⟩)
      rewrite [PySem.W.Fast.te10110043849684766642, PySem.W.Fast.te14364793385576792824]
      kernel_rfl)
    (fun w => by
      show (fun os => segRunT treeTable hp (w.withFollow "special-get-raises" true) 11 n6 1 250 (ts t47 15 187 (w.withFollow "special-get-raises" true) os) (piecesOf (sts 0 3) he hc ⟨0, 0, 0, 0⟩ B0)) = fun os => some (.next, ts t59 24 240 (w.withFollow "special-get-raises" true) os, hc, ⟨5, 0, 5, 6⟩)
      rewrite [PySem.W.Fast.te10110043849684766642, PySem.W.Fast.te14364793385576792824]
      kernel_rfl)
theorem p_1 : ∀ w : World, (fun os => segRunT treeTable hp w 11 n6 1 203 (ts t59 24 240 w os) (piecesOf (sts 3 4) he hc ⟨5, 0, 5, 6⟩ B0)) = fun os => some (.next, ts t63 25 280 w os, hc, ⟨9, 0, 9, 8⟩) :=
  byRow2 "special-get-raises" (P := fun w => (fun os => segRunT treeTable hp w 11 n6 1 203 (ts t59 24 240 w os) (piecesOf (sts 3 4) he hc ⟨5, 0, 5, 6⟩ B0)) = fun os => some (.next, ts t63 25 280 w os, hc, ⟨9, 0, 9, 8⟩))
    (fun w => by
      show (fun os => segRunT treeTable hp (w.withFollow "special-get-raises" false) 11 n6 1 203 (ts t59 24 240 (w.withFollow "special-get-raises" false) os) (piecesOf (sts 3 4) he hc ⟨5, 0, 5, 6⟩ B0)) = fun os => some (.next, ts t63 25 280 (w.withFollow "special-get-raises" false) os, hc, ⟨9, 0, 9, 8⟩)
      rewrite [PySem.W.Fast.te10110043849684766642, PySem.W.Fast.te14364793385576792824]
      kernel_rfl)
    (fun w => by
      show (fun os => segRunT treeTable hp (w.withFollow "special-get-raises" true) 11 n6 1 203 (ts t59 24 240 (w.withFollow "special-get-raises" true) os) (piecesOf (sts 3 4) he hc ⟨5, 0, 5, 6⟩ B0)) = fun os => some (.next, ts t63 25 280 (w.withFollow "special-get-raises" true) os, hc, ⟨9, 0, 9, 8⟩)
      rewrite [PySem.W.Fast.te10110043849684766642, PySem.W.Fast.te14364793385576792824]
      kernel_rfl)
theorem p_2 : ∀ w : World, (fun os => segRunT treeTable hp w 11 n6 1 263 (ts t63 25 280 w os) (piecesOf (sts 7 1) he hc ⟨9, 0, 9, 8⟩ B0)) = fun os => some (.next, ts t96 53 318 w os, hc, ⟨10, 0, 18, 16⟩) := by
  intro w
  rewrite [PySem.W.Fast.te10110043849684766642, PySem.W.Fast.te14364793385576792824]
  kernel_rfl
theorem p_3 : ∀ w : World, (fun os => segRunT treeTable hp w 11 n6 1 214 (ts t96 53 318 w os) (piecesOf (sts 8 1) he hc ⟨10, 0, 18, 16⟩ B0)) = fun os => some (.next, ts t111 65 334 w os, hc, ⟨19, 0, 20, 8⟩) := by
  intro w
  rewrite [PySem.W.Fast.te10110043849684766642, PySem.W.Fast.te14364793385576792824]
  kernel_rfl
theorem p_4 : ∀ w : World, (fun os => segRunT treeTable hp w 11 n6 1 392 (ts t111 65 334 w os) (piecesOf (sts 9 10) he hc ⟨19, 0, 20, 8⟩ B0)) = fun os => some (.next, ts t157 108 399 w os, hc, ⟨39, 0, 43, 47⟩) := by
  intro w
  rewrite [PySem.W.Fast.te10110043849684766642, PySem.W.Fast.te14364793385576792824]
  kernel_rfl
theorem p_5 : ∀ w : World, (fun os => segRunT treeTable hp w 11 n6 1 346 (ts t157 108 399 w os) (piecesOf (sts 19 12) he hc ⟨39, 0, 43, 47⟩ B0)) = fun os => some (.next, ts t234 183 497 w os, hc, ⟨163, 0, 163, 8⟩) := by
  intro w
  rewrite [PySem.W.Fast.te10110043849684766642, PySem.W.Fast.te14364793385576792824]
  kernel_rfl
theorem p_6 : ∀ w : World, (fun os => segRunT treeTable hp w 11 n6 1 393 (ts t234 183 497 w os) (piecesOf (sts 31 6) he hc ⟨163, 0, 163, 8⟩ B0)) = fun os => some (.next, ts t292 239 568 w os, hc, ⟨182, 0, 184, 16⟩) := by
  intro w
  rewrite [PySem.W.Fast.te10110043849684766642, PySem.W.Fast.te14364793385576792824]
  kernel_rfl
theorem p_7 : ∀ w : World, (fun os => segRunT treeTable hp w 11 n6 1 364 (ts t292 239 568 w os) (piecesOf (sts 37 12) he hc ⟨182, 0, 184, 16⟩ B0)) = fun os => some (.next, ts t378 323 667 w os, hc, ⟨242, 0, 252, 24⟩) := by
  intro w
  rewrite [PySem.W.Fast.te10110043849684766642, PySem.W.Fast.te14364793385576792824]
  kernel_rfl
theorem p_8 : ∀ w : World, (fun os => segRunT treeTable hp w 11 n6 1 393 (ts t378 323 667 w os) (piecesOf (sts 49 1) he hc ⟨242, 0, 252, 24⟩ B0)) = fun os => some (.next, ts t436 379 746 w os, hc, ⟨253, 0, 285, 31⟩) := by
  intro w
  rewrite [PySem.W.Fast.te10110043849684766642, PySem.W.Fast.te14364793385576792824]
  kernel_rfl
theorem p_9 : ∀ w : World, (fun os => segRunT treeTable hp w 11 n6 1 499 (ts t436 379 746 w os) (piecesOf (sts 50 1) he hc ⟨253, 0, 285, 31⟩ B0)) = fun os => some (.next, ts t514 455 860 w os, hc, ⟨286, 0, 372, 55⟩) := by
  intro w
  rewrite [PySem.W.Fast.te10110043849684766642, PySem.W.Fast.te14364793385576792824]
  kernel_rfl
theorem p_10 : ∀ w : World, (fun os => segRunT treeTable hp w 11 n6 1 383 (ts t514 455 860 w os) (piecesOf (sts 51 5) he hc ⟨286, 0, 372, 55⟩ B0)) = fun os => some (.next, ts t565 503 924 w os, hc, ⟨390, 0, 394, 37⟩) := by
  intro w
  rewrite [PySem.W.Fast.te10110043849684766642, PySem.W.Fast.te14364793385576792824]
  kernel_rfl
theorem p_11 : ∀ w : World, (fun os => segRunT treeTable hp w 11 n6 1 153 (ts t565 503 924 w os) (piecesOf (sts 56 5) he hc ⟨390, 0, 394, 37⟩ B0)) = fun os => some (.next, ts t600 536 968 w os, hc, ⟨433, 0, 449, 15⟩) := by
  intro w
  rewrite [PySem.W.Fast.te10110043849684766642, PySem.W.Fast.te14364793385576792824]
  kernel_rfl
theorem p_fin : ∀ w : World, (fun os => topRun treeTable hp w 11 n6 2 (ts t600 536 968 w os).abs ⟨doneF .next, hc, ⟨433, 0, 449, 15⟩, B0⟩) = fun os => some ⟨hEnd w.params, .mk [], .mk 0 0 0 0, 968, os⟩ := by
  intro w
  rewrite [PySem.W.Fast.te14082659384304107361, PySem.W.Fast.te14364793385576792824]
  kernel_rfl
-- part Hd2
theorem p_body : sts 0 3 ++ (sts 3 4 ++ (sts 7 1 ++ (sts 8 1 ++ (sts 9 10 ++ (sts 19 12 ++ (sts 31 6 ++ (sts 37 12 ++ (sts 49 1 ++ (sts 50 1 ++ (sts 51 5 ++ (sts 56 5 ++ ([] : List Stmt)))))))))))) = hb := by kernel_rfl
theorem p_rest (w : World) (os : OsState) : topRun treeTable hp w 11 n6 (Nat.add 250 (Nat.add 203 (Nat.add 263 (Nat.add 214 (Nat.add 392 (Nat.add 346 (Nat.add 393 (Nat.add 364 (Nat.add 393 (Nat.add 499 (Nat.add 383 (Nat.add 153 2)))))))))))) (ts t47 15 187 w os).abs (restOf hb he hc ⟨0, 0, 0, 0⟩ B0) = some ⟨hEnd w.params, .mk [], .mk 0 0 0 0, 968, os⟩ := by
  rw [← p_body]
  exact (piece_app (segRun_of (congrFun (p_0 w) os)) (piece_app (segRun_of (congrFun (p_1 w) os)) (piece_app (segRun_of (congrFun (p_2 w) os)) (piece_app (segRun_of (congrFun (p_3 w) os)) (piece_app (segRun_of (congrFun (p_4 w) os)) (piece_app (segRun_of (congrFun (p_5 w) os)) (piece_app (segRun_of (congrFun (p_6 w) os)) (piece_app (segRun_of (congrFun (p_7 w) os)) (piece_app (segRun_of (congrFun (p_8 w) os)) (piece_app (segRun_of (congrFun (p_9 w) os)) (piece_app (segRun_of (congrFun (p_10 w) os)) (piece_app (segRun_of (congrFun (p_11 w) os)) (piece_nil (congrFun (p_fin w) os))))))))))))))
theorem p_run (w : World) (os : OsState) : topRun treeTable hp w 11 n6 (Nat.add 12 (Nat.add 1 (Nat.add 250 (Nat.add 203 (Nat.add 263 (Nat.add 214 (Nat.add 392 (Nat.add 346 (Nat.add 393 (Nat.add 364 (Nat.add 393 (Nat.add 499 (Nat.add 383 (Nat.add 153 2)))))))))))))) ⟨boot_heap w.params, .mk [], boot_drawn, boot_toks, os⟩ (topStub hp) = some ⟨hEnd w.params, .mk [], .mk 0 0 0 0, 968, os⟩ := go_top (congrFun (p_pre w) os) (piece_block (congrFun (p_block w) os) (p_rest w os))
noncomputable abbrev hv : Program := view hp [0, 1, 2, 3, 4, 5, 7, 8, 9, 11, 12, 13, 14, 15, 16, 17, 18, 19, 20, 21, 22, 23, 24, 25, 26, 27, 28, 29, 31, 33, 34, 35, 36, 37, 38, 39, 40, 41, 42, 43, 44, 45, 46, 47, 48, 49, 50, 51, 52, 54, 55, 56, 57, 58, 59, 60]
abbrev lo4 : List Str := [.ofString "LEVELS", .ofString "FUNCTIONS", .ofString "ToolError", .ofString "CodeHandler"]
noncomputable abbrev hr : RowW := OpenRow.toRowW PySem.Challenge.rw_qd0067_01.row
noncomputable def kAs : List Addr := nat_lit 2 :: nat_lit 3 :: nat_lit 15 :: nat_lit 17 :: nat_lit 18 :: nat_lit 20 :: nat_lit 21 :: nat_lit 22 :: nat_lit 23 :: nat_lit 24 :: nat_lit 25 :: nat_lit 32 :: nat_lit 33 :: nat_lit 35 :: nat_lit 36 :: nat_lit 38 :: nat_lit 39 :: nat_lit 40 :: nat_lit 42 :: nat_lit 43 :: nat_lit 45 :: nat_lit 46 :: nat_lit 47 :: nat_lit 48 :: nat_lit 49 :: nat_lit 50 :: nat_lit 53 :: nat_lit 60 :: nat_lit 61 :: nat_lit 62 :: nat_lit 65 :: nat_lit 72 :: nat_lit 73 :: nat_lit 74 :: nat_lit 77 :: nat_lit 78 :: nat_lit 79 :: nat_lit 80 :: nat_lit 82 :: nat_lit 83 :: nat_lit 85 :: nat_lit 86 :: nat_lit 87 :: nat_lit 89 :: nat_lit 90 :: nat_lit 92 :: nat_lit 93 :: nat_lit 94 :: nat_lit 96 :: nat_lit 97 :: nat_lit 99 :: nat_lit 100 :: nat_lit 101 :: nat_lit 103 :: nat_lit 104 :: nat_lit 106 :: nat_lit 107 :: nat_lit 108 :: nat_lit 110 :: nat_lit 111 :: nat_lit 113 :: nat_lit 114 :: nat_lit 115 :: nat_lit 117 :: nat_lit 118 :: nat_lit 120 :: nat_lit 121 :: nat_lit 122 :: nat_lit 124 :: nat_lit 125 :: nat_lit 127 :: nat_lit 128 :: nat_lit 129 :: nat_lit 131 :: nat_lit 132 :: nat_lit 134 :: nat_lit 135 :: nat_lit 136 :: nat_lit 138 :: nat_lit 139 :: nat_lit 141 :: nat_lit 142 :: nat_lit 143 :: nat_lit 145 :: nat_lit 146 :: nat_lit 148 :: nat_lit 149 :: nat_lit 150 :: nat_lit 152 :: nat_lit 153 :: nat_lit 155 :: nat_lit 156 :: nat_lit 157 :: nat_lit 159 :: nat_lit 160 :: nat_lit 162 :: nat_lit 163 :: nat_lit 164 :: nat_lit 166 :: nat_lit 167 :: nat_lit 169 :: nat_lit 170 :: nat_lit 171 :: nat_lit 174 :: nat_lit 175 :: nat_lit 176 :: nat_lit 178 :: nat_lit 179 :: nat_lit 181 :: nat_lit 182 :: nat_lit 190 :: nat_lit 192 :: nat_lit 193 :: nat_lit 195 :: nat_lit 196 :: nat_lit 197 :: nat_lit 199 :: nat_lit 200 :: nat_lit 202 :: nat_lit 203 :: nat_lit 204 :: nat_lit 206 :: nat_lit 207 :: nat_lit 209 :: nat_lit 210 :: nat_lit 211 :: nat_lit 212 :: nat_lit 213 :: nat_lit 214 :: nat_lit 215 :: nat_lit 218 :: nat_lit 220 :: nat_lit 221 :: nat_lit 223 :: nat_lit 224 :: nat_lit 225 :: nat_lit 227 :: nat_lit 228 :: nat_lit 230 :: nat_lit 231 :: nat_lit 232 :: nat_lit 234 :: nat_lit 235 :: nat_lit 237 :: nat_lit 238 :: nat_lit 239 :: nat_lit 241 :: nat_lit 242 :: nat_lit 244 :: nat_lit 245 :: nat_lit 246 :: nat_lit 248 :: nat_lit 249 :: nat_lit 251 :: nat_lit 252 :: nat_lit 253 :: nat_lit 255 :: nat_lit 256 :: nat_lit 258 :: nat_lit 259 :: nat_lit 260 :: nat_lit 262 :: nat_lit 263 :: nat_lit 265 :: nat_lit 266 :: nat_lit 267 :: nat_lit 269 :: nat_lit 270 :: nat_lit 272 :: nat_lit 273 :: nat_lit 274 :: nat_lit 276 :: nat_lit 277 :: nat_lit 279 :: nat_lit 280 :: nat_lit 281 :: nat_lit 283 :: nat_lit 284 :: nat_lit 286 :: nat_lit 287 :: nat_lit 288 :: nat_lit 290 :: nat_lit 291 :: nat_lit 293 :: nat_lit 294 :: nat_lit 295 :: nat_lit 297 :: nat_lit 298 :: nat_lit 300 :: nat_lit 301 :: nat_lit 302 :: nat_lit 304 :: nat_lit 305 :: nat_lit 307 :: nat_lit 308 :: nat_lit 309 :: nat_lit 311 :: nat_lit 312 :: nat_lit 314 :: nat_lit 315 :: nat_lit 316 :: nat_lit 318 :: nat_lit 319 :: nat_lit 321 :: nat_lit 322 :: nat_lit 330 :: nat_lit 332 :: nat_lit 333 :: nat_lit 335 :: nat_lit 336 :: nat_lit 337 :: nat_lit 339 :: nat_lit 340 :: nat_lit 342 :: nat_lit 343 :: nat_lit 344 :: nat_lit 346 :: nat_lit 347 :: nat_lit 349 :: nat_lit 350 :: nat_lit 351 :: nat_lit 353 :: nat_lit 354 :: nat_lit 356 :: nat_lit 357 :: nat_lit 358 :: nat_lit 360 :: nat_lit 361 :: nat_lit 363 :: nat_lit 364 :: nat_lit 365 :: nat_lit 367 :: nat_lit 368 :: nat_lit 370 :: nat_lit 371 :: nat_lit 372 :: nat_lit 373 :: nat_lit 374 :: nat_lit 375 :: nat_lit 376 :: nat_lit 386 :: nat_lit 387 :: nat_lit 389 :: nat_lit 390 :: nat_lit 392 :: nat_lit 393 :: nat_lit 394 :: nat_lit 396 :: nat_lit 397 :: nat_lit 399 :: nat_lit 400 :: nat_lit 401 :: nat_lit 403 :: nat_lit 404 :: nat_lit 406 :: nat_lit 407 :: nat_lit 408 :: nat_lit 410 :: nat_lit 411 :: nat_lit 413 :: nat_lit 414 :: nat_lit 415 :: nat_lit 417 :: nat_lit 418 :: nat_lit 420 :: nat_lit 421 :: nat_lit 422 :: nat_lit 424 :: nat_lit 425 :: nat_lit 427 :: nat_lit 428 :: nat_lit 429 :: nat_lit 431 :: nat_lit 432 :: nat_lit 434 :: nat_lit 435 :: nat_lit 436 :: nat_lit 438 :: nat_lit 439 :: nat_lit 441 :: nat_lit 442 :: nat_lit 443 :: nat_lit 446 :: nat_lit 447 :: nat_lit 448 :: nat_lit 449 :: nat_lit 450 :: nat_lit 451 :: nat_lit 452 :: nat_lit 455 :: nat_lit 462 :: nat_lit 463 :: nat_lit 465 :: nat_lit 466 :: nat_lit 468 :: nat_lit 469 :: nat_lit 470 :: nat_lit 472 :: nat_lit 473 :: nat_lit 475 :: nat_lit 476 :: nat_lit 477 :: nat_lit 478 :: nat_lit 479 :: nat_lit 482 :: nat_lit 484 :: nat_lit 485 :: nat_lit 487 :: nat_lit 488 :: nat_lit 489 :: nat_lit 491 :: nat_lit 492 :: nat_lit 494 :: nat_lit 495 :: nat_lit 496 :: nat_lit 498 :: nat_lit 499 :: nat_lit 501 :: nat_lit 502 :: nat_lit 503 :: nat_lit 505 :: nat_lit 506 :: nat_lit 508 :: nat_lit 509 :: nat_lit 510 :: nat_lit 512 :: nat_lit 513 :: nat_lit 515 :: nat_lit 516 :: nat_lit 517 :: nat_lit 519 :: nat_lit 520 :: nat_lit 522 :: nat_lit 523 :: nat_lit 524 :: nat_lit 527 :: nat_lit 528 :: nat_lit 529 :: nat_lit 531 :: nat_lit 532 :: nat_lit 534 :: nat_lit 535 :: []
theorem kAs_ok (P : Params) : kAs = (hd.heap_39 P).map (·.1) := by kernel_rfl
noncomputable abbrev hH : Hook := kmHook hd.heap_39 kAs kAs_ok [525]
noncomputable abbrev hXt (s : Shared) : Bool := xlAt hv [] s && recOk (RowW.records hr) s
noncomputable abbrev sE (w : World) (os : OsState) : Shared := ⟨hEnd w.params, .mk [], .mk 0 0 0 0, 968, os⟩
theorem l_open : ∀ w : World, (fencedOpening treeTable hp w 7808).map (fun s => (s.heap, s.gens, s.drawn, s.toks)) = some (boot_heap w.params, Array.mk [], boot_drawn, boot_toks) := boot_open (by kernel_rfl) (by decide) (fun s => by kernel_rfl)
theorem l_size (w : World) : ((boot_heap w.params).isNs mainGlobals && (Array.mk [] : Array GenState).size == 0, (boot_heap w.params).objs.size, (boot_heap w.params).nsMap mainGlobals "__annotations__") = (true, 11, n6) := by
  rewrite [PySem.W.Fast.te8920871248978507458]
  kernel_rfl
theorem l_1 (w : World) : (fun os => (staticsOk (importedModules hp.main.body) (boot_heap w.params) (hEnd w.params) && namesBound hp (hEnd w.params) && gensDone (sE w os) && laidKept (boot_heap w.params) (hEnd w.params))) = fun _ => true := by
  rewrite [PySem.W.Fast.te5923862056798008813]
  kernel_rfl
theorem l_2 (w : World) : (fun os => seen ((recsOf hv).map (·.name)) (ownsOf hv) [] { sE w os with gens := #[] }) = fun _ => expectedOf hv := by
  rewrite [PySem.W.Fast.te5160383126252970620, PySem.W.Fast.te3399658132070893891, PySem.W.Fast.te5991557255702980513]
  kernel_rfl
theorem l_3 (w : World) : (fun os => (sE w os).heap.bltView) = fun _ => bltViewBooted := by kernel_rfl
theorem l_4 (w : World) : (fun os => (sE w os).heap.keysOk (looseW hv lo4) ((recsOf hv).map (·.name)) ((litsOf hv).map (·.1)) ((clssOf hv (looseW hv lo4)).map (·.name)) && (sE w os).heap.accountedOkI (importedModules hp.main.body) && (sE w os).heap.isNs mainGlobals && (sE w os).heap.isNs builtinsNs && tablesOk hv (sE w os).heap && hXt (sE w os) && (if true then (sE w os).gens.size == 0 else !leftWithCleanup (sE w os).gens)) = fun _ => true := by
  rewrite [PySem.W.Fast.te10880121769531294198, PySem.W.Fast.te821141287760084731, PySem.W.Fast.te3399658132070893891, PySem.W.Fast.te7409074990110511671, PySem.W.Fast.te13664370479719496447, PySem.W.Fast.te14722251495701143533, PySem.W.Fast.te5923862056798008813, PySem.W.Fast.te10994771534591457954]
  kernel_rfl
theorem l_5 (w : World) : (fun os => tabsOk hv (sE w os)) = fun _ => true := by
  rewrite [PySem.W.Fast.te479339242167458305]
  kernel_rfl
theorem l_6 (w : World) : (fun os => pinSeenD hv (drecsOf hv) (sE w os)) = fun _ => pinGoodD (drecsOf hv) := by
  rewrite [PySem.W.Fast.te16090120013241838585, PySem.W.Fast.te3247288618530077131]
  kernel_rfl
theorem l_7 (w : World) : (fun os => plainSeenE hv (looseW hv lo4) (sE w os)) = fun _ => plainGoodE hv (looseW hv lo4) := by
  rewrite [PySem.W.Fast.te2386780881361962483, PySem.W.Fast.te821141287760084731]
  kernel_rfl
theorem l_8 (w : World) : (fun os => plainSeenD hv lo4 (sE w os)) = fun _ => plainGoodD hv lo4 := by
  rewrite [PySem.W.Fast.te11698064438423848299]
  kernel_rfl
theorem l_9 (w : World) : (fun os => wideSeen hv (sE w os)) = fun _ => wideGood hv := by
  rewrite [PySem.W.Fast.te7317090234206586261]
  kernel_rfl
theorem l_10 (w : World) : (fun os => clsSeenW hv lo4 (sE w os)) = fun _ => clsGoodW hv lo4 := by
  rewrite [PySem.W.Fast.te7369524293546568484]
  kernel_rfl
theorem l_11 (w : World) : (fun os => hH.obs (sE w os)) = fun _ => hH.val w := by kernel_rfl
theorem hleft : LeftO hp hv lo4 hXt hH.obs hH.val 7808 :=
  LeftO.of_pieces (H₀ := boot_heap) (H₁ := hEnd) l_open l_size p_run (by decide) fun w => funext fun os =>
    looks_pair (congrFun (l_1 w) os) (looks_pair (show openSeen hv lo4 (importedModules hp.main.body) hXt true (sE w os) = openGood hv lo4 from
      looks_pair (congrFun (l_2 w) os) (looks_pair (congrFun (l_3 w) os) (looks_pair (congrFun (l_4 w) os) (looks_pair (congrFun (l_5 w) os) (looks_pair (congrFun (l_6 w) os) (looks_pair (congrFun (l_7 w) os) (looks_pair (congrFun (l_8 w) os) (looks_pair (congrFun (l_9 w) os) (congrFun (l_10 w) os))))))))) (congrFun (l_11 w) os))
-- part Hd4
theorem hsaid : OpenLaw.wellSaid PySem.Challenge.rw_qd0067_01 = true := by
  rewrite [PySem.W.Fast.te9446332074065402090]
  kernel_rfl
-- part Pre
theorem room_le {d k n : Nat} (h : d + n < recursionLimit) (hk : k ≤ n) : d + k < recursionLimit := Nat.lt_of_le_of_lt (Nat.add_le_add_left hk d) h
theorem room_le0 {d n : Nat} (h : d + n < recursionLimit) : d < recursionLimit := Nat.lt_of_le_of_lt (Nat.le_add_right d n) h
theorem units_le {d k n : Nat} (h : d + n < cLine) (hk : k ≤ n) : d + k ≤ cLine := Nat.le_of_lt (Nat.lt_of_le_of_lt (Nat.add_le_add_left hk d) h)
theorem units_lt {d k n : Nat} (h : d + n < cLine) (hk : k ≤ n) : d + k < cLine := Nat.lt_of_le_of_lt (Nat.add_le_add_left hk d) h
theorem wd2 : True := by
  (k_with "mine k_room" => ((try simp only [depth_under_make, depth_under_kw, depth_in1, depth_deeper, depth_caller, Nat.add_assoc]); first | exact room_le (by assumption) (by decide) | exact room_le0 (by assumption)))
  (k_with "mine k_units" => ((try simp only [units_in1, units_deeper, Around.mark_units, units_caller, Nat.add_assoc]); first | exact units_le (by assumption) (by decide) | exact units_lt (by assumption) (by decide)))
  trivial
abbrev pr : Program := PySem.Challenge.rw_qd0067_01.row.prog
theorem fill : (∀ P, hd.heap_39 P = hd.heap_39 P) ∧ (PySem.Challenge.rw_qd0067_01 = PySem.Challenge.rw_qd0067_01) := ⟨fun _ => rfl, rfl⟩
/-- a call of the function at f with the arguments vs, from any frame of a function; all that the call makes is dropped -/
abbrev Calls (w : World) (f : Addr) (vs : List Value) (news : List (Addr × Obj)) (P : (Value → Shared → Prop) → (Value → Shared → Prop) → (Heap → Prop) → Shared → Prop) : Prop :=
  ∀ (p : Program) (loose : List Str) (mean : ExcName → Option Value) (mg mb : Str → Option Value) (dp un : Nat) (gd : Option (List Code)) (cn : Str) (cnm : List (Str × NameKind)) (cg cc : Bool) (cmo : List (Str × Const)) (a : Addr) (ccd : Value) (cl : List (Str × Addr)) (outer : List Env) (A₀ : Around) (base h₀ : Heap) (L : Addr) (m : Str → Option Value) (s : Shared) (Q E : Value → Shared → Prop),
    Below A₀ base outer h₀ → Fr h₀ L s.heap m → (hd.heap_39 w.params).In h₀ → News h₀ L s.heap news → Top p loose mean mg mb h₀ →
    dp + 60 < recursionLimit → un + 600 < cLine → P Q E (fun h' => Fr h₀ L h' m ∧ News h₀ L h' news) s →
      wpAny (model pr w) (ktrTop dp un gd cn { kind := .function, names := cnm, isGenerator := cg, isCoroutine := cc, more := cmo } L a ccd cl outer) (call (.ref f) vs) Q E s
theorem wd3 : True := by
  (k_with "compareOp In str ref" => (k_here; (with_reducible show wpAny _ _ (compareOp CmpOp.In (Value.str _ _) (Value.ref _)) _ _ _); (with_unfolding_all refine' in_tuple_strs ?k1w3x ?k2w3x ?_; (case k1w3x => exact tupK (Frag.In.keeps (by k_asm) (Fr.keep (by k_asm))) (by k_is)); (case k2w3x => kde_strs); k_whole)))
  trivial
theorem ints3 {vs : List Value} {a b c : Int} (h : IntsAre vs [a, b, c]) : ∃ t1 t2 t3, vs = [.int a t1, .int b t2, .int c t3] := by
  rcases h with _ | ⟨_, t1, h⟩
  rcases h with _ | ⟨_, t2, h⟩
  rcases h with _ | ⟨_, t3, h⟩
  cases h
  exact ⟨_, _, _, rfl⟩
theorem ints4 {vs : List Value} {a b c d : Int} (h : IntsAre vs [a, b, c, d]) : ∃ t1 t2 t3 t4, vs = [.int a t1, .int b t2, .int c t3, .int d t4] := by
  rcases h with _ | ⟨_, t1, h⟩
  rcases h with _ | ⟨_, t2, h⟩
  rcases h with _ | ⟨_, t3, h⟩
  rcases h with _ | ⟨_, t4, h⟩
  cases h
  exact ⟨_, _, _, _, rfl⟩
theorem wd4 : True := by
  (k_with "setItem ref int int" => (k_here; (rename IntsAre _ (List.map _ (rangeKs _ _)) => hI9w); k_dflt (first
      | (obtain ⟨t91, t92, t93, e9w⟩ := ints3 (a := -1) (b := -1) (c := -1) hI9w; subst e9w)
      | (obtain ⟨t91, t92, t93, t94, e9w⟩ := ints4 (a := -1) (b := -1) (c := -1) (d := -1) hI9w; subst e9w)); walk_say "OPENED"))
  (k_with "eval ListComp" => (k_here; (with_reducible show wpAny _ _ (eval (Expr.ListComp _ [⟨_, Expr.Call (Expr.Name (Str.ofString "goals_behind") _) _ _ _, _, _⟩] _ _) _) _ _ _); k_dflt (refine LCg.ListComp_U (F₀ := by k_asm) (by with_unfolding_all rfl) (by decide) (by rfl) (by decide) (by rfl) ?_)))
  (k_with "CompSrc" => (k_here; k_dflt (refine LCg.CompSrc.ledger (by rfl) (by k_asm) (by k_asm) (by k_mem) (by exact Nat.le_of_ble_eq_true rfl) ?_; intro g'w; lcg_lit)))
  (k_with "CompEnd" => lcg_end)
  trivial
-- part Exc
section
variable {prog : Program} {w : World} {A : Around} {E : Value → Shared → Prop} {h : Heap} {g : Array GenState} {d : Drawn} {t : Nat} {os : OsState}
variable {nm q : Str} {C N : Addr} {bs bm : List Value} {hdct : Bool} {sn : List Str} {sub : List Value} {ab : Bool} {col : Option Bool} {dd : Option Addr} {k0 k1 k2 k3 k5 : Option Value} {B newId initId : String} {bmF : List Value}
theorem exc_new (F : ExcBaseFacts B newId initId bmF) (hB : bm.contains (.type B) = true) (hA : bm.contains (.type "AttributeError") = false) (hN : bm.contains (.type "NameError") = false) {R : Result → Shared → Prop} {rest : List Value}
    (hC : h.get? C = some (excClassObj nm q C N bs bm hdct sn sub ab col dd k0 k1 k2 k3 k5 newId))
    (hq : R (.ok (.ret (.ref (h.objs.size + 1)))) ⟨(h.push { cls := .type "tuple", data := .seq rest.toArray }).push
      { cls := .ref C, data := .fields #[.ref h.objs.size, .none, .none, .none, .bool false, .none] }, g, d, t, os⟩) (hrest : rest.length ≤ sizeLine := by size_fits) :
    codeAny (model prog w) A (.builtin newId ⟨.ref C :: rest, []⟩) R ⟨h, g, d, t, os⟩ := by
  have hends := F.ends
  have hcB : (Value.ref C :: bm).contains (.type B) = true := by rw [List.contains_cons, hB, Bool.or_true]
  have hcA : (Value.ref C :: bm).contains (.type "AttributeError") = false := by rw [List.contains_cons, hA]; rfl
  have hcN : (Value.ref C :: bm).contains (.type "NameError") = false := by rw [List.contains_cons, hN]; rfl
  refine codeAny_builtinAt F.entry ?_
  unfold Builtin.«BaseException.__new__»
  refine PySem.wpAt_bind ?_
  show PySem.wpAt _ _ _ (stack >>= _) _ _ _
  refine PySem.wpAt_bind (PySem.wpAt_stack fun p below => PySem.wpAt_of_wpAny ?_)
  wp_walk
  refine PySem.wpAt_of_wpAny ?_
  rw [F.owner]
  repeat (first | with_reducible refine wpAny_madeHere_exc F.canon hC ?_ | with_reducible refine wpAny_loadPart_at hC ?_ | (with_reducible refine wpAny_isSubtype_exc hC ?_; first | rw [hcB] | rw [hcA] | rw [hcN]) | wp_step)
  show R _ _
  rw [Heap.size_push]
  exact hq
theorem exc_type_call (F : ExcBaseFacts B newId initId bmF) {Tb : Addr} {bm0 : List Value} (hbm : bm = .ref Tb :: bm0)
    (hB : bm.contains (.type B) = true) (hA : bm.contains (.type "AttributeError") = false) (hN : bm.contains (.type "NameError") = false)
    {mN mT : Str → Option Value} {c0 : Value} {ddT : Option Addr} {cdT : ClassData} {slT : Array (Option Value)} {rest : List Value} {fI : Addr} {oI : Obj} {Q : PySem.Fin → Shared → Prop}
    (hC : h.get? C = some (excClassObj nm q C N bs bm hdct sn sub ab col dd k0 k1 k2 k3 k5 newId)) (hn : h.Ns N mN) (hi : mN "__init__" = none)
    (hT : h.get? Tb = some { cls := c0, dict := ddT, data := .cls cdT, slots := slT }) (hnT : h.Ns cdT.ns mT) (hiT : mT "__init__" = some (.ref fI))
    (hfI : h.get? fI = some oI) (hfc : oI.cls = .type "function")
    (hq : ∀ h' e, Heap.MadeExcOf h h' e (.ref C) rest →
      wpAny (model prog w) A (call (.ref fI) (.ref e :: rest)) (fun r s' => r = .none ∧ Q (.done (.ret (.ref e))) s') E ⟨h', g, d, t, os⟩) (hrest : rest.length ≤ sizeLine := by size_fits) :
    wpAny (model prog w) A (Builtin.«type.__call__» ⟨.ref C :: rest, []⟩) Q E ⟨h, g, d, t, os⟩ := by
  repeat (first | with_reducible refine wpAny_loadPart_at hC ?_ | with_reducible refine wpAny_madeBy_exc hC ?_ | wp_step)
  refine codeAny_call_builtin_code (Code.quiet_builtin _ F.quiet) (wpAny_check_new_subU F hB (OwnTail.base (h := h)) hC ?_)
  refine exc_new F hB hA hN hC ?_ hrest
  show wpAny _ _ _ _ _ _
  have up : ∀ b o, h.get? b = some o → ((h.push { cls := .type "tuple", data := .seq rest.toArray }).push { cls := .ref C, data := .fields #[.ref h.objs.size, .none, .none, .none, .bool false, .none] }).get? b = some o := fun b o e => Heap.get?_push_of_some _ (Heap.get?_push_of_some _ e)
  have hC₁ := up _ _ hC
  have hT₁ := up _ _ hT
  have hfI₁ := up _ _ hfI
  have hn₁ := hn.keeps up
  have hnT₁ := hnT.keeps up
  have hget : ((h.push { cls := .type "tuple", data := .seq rest.toArray }).push
      { cls := .ref C, data := .fields #[.ref h.objs.size, .none, .none, .none, .bool false, .none] }).get? (h.objs.size + 1) = some
      { cls := .ref C, data := .fields #[.ref h.objs.size, .none, .none, .none, .bool false, .none] } := by heap_get
  have hcC : (Value.ref C :: bm).contains (.ref C) = true := by simp
  unfold isInstance
  repeat (first | with_reducible refine wpAny_loadPart_at hget ?_ | (with_reducible refine wpAny_isSubtype_exc hC₁ ?_; rw [hcC]) | wp_step)
  show wpAny _ _ (typeLookup (.ref C) _) _ _ _
  rw [typeLookup_eq]
  refine wpAny_bind (wpAny_mroOf_exc hC₁ ?_)
  rw [lookupAlong_cons]
  refine wpAny_bind (wpAny_classOwn_exc hC₁ hn₁ ?_)
  rw [hi]
  subst hbm
  dsimp only
  rw [lookupAlong_cons]
  refine wpAny_bind (wpAny_classOwn_cls hT₁ hnT₁ ?_)
  rw [hiT]
  refine wpAny_pure ?_
  refine wpAny_holding (wpAny_bind ?_)
  unfold bindSpecial
  refine wpAny_bind (wpAny_typeOf (T := "function") ⟨_, hfI₁, hfc⟩ ?_)
  rw [if_pos (by decide)]
  refine wpAny_pure (wpAny_bind (wpAny_mono (hq _ (h.objs.size + 1) ⟨fun b o hb => up b o hb, Heap.get?_none_of_le (Nat.le_succ _), h.objs.size, hget, Heap.get?_none_of_le (Nat.le_refl _), ?_⟩) (fun r s' hr => ?_) fun _ _ x => x))
  · exact Heap.get?_push_of_some _ (Heap.get?_push_at rfl rfl)
  · obtain ⟨rfl, hQ⟩ := hr
    wp_walk
    exact hQ
theorem exc_call (F : ExcBaseFacts B newId initId bmF) {Tb : Addr} {bm0 : List Value} (hbm : bm = .ref Tb :: bm0)
    (hB : bm.contains (.type B) = true) (hA : bm.contains (.type "AttributeError") = false) (hN : bm.contains (.type "NameError") = false)
    {mN mT : Str → Option Value} {c0 : Value} {ddT : Option Addr} {cdT : ClassData} {slT : Array (Option Value)} {rest : List Value} {fI : Addr} {oI : Obj} {Q : Value → Shared → Prop}
    (hC : h.get? C = some (excClassObj nm q C N bs bm hdct sn sub ab col dd k0 k1 k2 k3 k5 newId)) (hn : h.Ns N mN) (hi : mN "__init__" = none)
    (hT : h.get? Tb = some { cls := c0, dict := ddT, data := .cls cdT, slots := slT }) (hnT : h.Ns cdT.ns mT) (hiT : mT "__init__" = some (.ref fI))
    (hfI : h.get? fI = some oI) (hfc : oI.cls = .type "function")
    (hq : ∀ h' e, Heap.MadeExcOf h h' e (.ref C) rest →
      wpAny (model prog w) (A.under (.builtin "type.__call__" ⟨.ref C :: rest, []⟩)) (call (.ref fI) (.ref e :: rest)) (fun r s' => r = .none ∧ Q (.ref e) s') E ⟨h', g, d, t, os⟩) (hrest : rest.length ≤ sizeLine := by size_fits) :
    wpAny (model prog w) A (call (.ref C) rest) Q E ⟨h, g, d, t, os⟩ := by
  have f1 := tc_lookup
  have f2 := tc_bind (.ref C)
  have hTy : (⟨h, g, d, t, os⟩ : Shared).TypeIs (.ref C) "type" := ⟨_, hC, rfl⟩
  refine wpAny_call (codeAny_of_tree ?_)
  show wpAny _ _ (callAny (.ref C) _) _ _ _
  repeat (any_goals (first | assumption | with_reducible refine wpAny_loadPart_at hC ?_ | wp_step))
  refine ⟨rfl, ?_⟩
  refine codeAny_call_builtin_at (Code.quiet_builtin _ (by decide +kernel)) entry_typeCall (wpAny_check_type_call_sub hC (exc_type_call (hrest := hrest) F hbm hB hA hN hC hn hi hT hnT hiT hfI hfc fun h' e hm => ?_))
  exact hq h' e hm
end
theorem ns_some_of {K : Frag} {h : Heap} {N : Addr} {mg : Str → Option Value} {n : Str} {v : Value} (X : K.In h) (G : h.Ns N mg) (e : nsIn K N n = some (some v)) : mg n = some v := by
  obtain ⟨o, es, ep, ho, hd, _, hf⟩ := G
  unfold nsIn at e
  split at e
  · rename_i c d es' n' sl q
    have := X _ _ q
    rw [ho] at this
    cases this
    cases hd
    split at e
    · rename_i en he
      cases e
      rw [← hf]
      unfold nsFind findBy
      rw [← Array.find?_toList, he]
      rfl
    · split at e <;> cases e
  · cases e
/-- an own exception class whose base, an own class too, has the __init__ -/
def excOwn (K : Frag) (C Tb fI : Addr) (bm0 : List Value) (newId : String) : Bool := match K.lookup C, K.lookup Tb, K.lookup fI with
  | some ⟨.type "type", _, .cls cd, sl⟩, some ⟨_, _, .cls cdT, _⟩, some ⟨.type "function", _, _, _⟩ => (match cd.mro, sl.toList with
    | .ref C' :: .ref T' :: bm, [_, _, _, _, some (.builtin n), _] => C' == C && T' == Tb && n == newId && !cd.hasDel && bm == bm0 && nsOkIn K cd.ns && nsIn K cd.ns "__init__" == some none && nsOkIn K cdT.ns && nsIn K cdT.ns "__init__" == some (some (.ref fI))
    | _, _ => false)
  | _, _, _ => false
abbrev excObj (C t : Addr) : Obj := { cls := .ref C, data := .fields #[.ref t, .none, .none, .none, .bool false, .none] }
abbrev excTup (vs : List Value) : Obj := { cls := .type "tuple", data := .seq vs.toArray }
section
variable {prog : Program} {w : World} {A : Around} {E : Value → Shared → Prop} {s : Shared} {K : Frag} {C Tb fI : Addr} {h₀ : Heap} {L : Addr} {m : Str → Option Value} {news : List (Addr × Obj)} {B newId initId : String} {bmF bm0 : List Value} {Q : Value → Shared → Prop} {rest : List Value}
theorem exc_callK (F : Fr h₀ L s.heap m) (X₀ : K.In h₀) (N : News h₀ L s.heap news) (e : excOwn K C Tb fI bm0 newId = true) (FB : ExcBaseFacts B newId initId bmF)
    (hB : bm0.contains (.type B) = true) (hA : bm0.contains (.type "AttributeError") = false) (hN : bm0.contains (.type "NameError") = false)
    (hq : ∀ h' e t, Fr h₀ L h' m → News h₀ L h' ((e, excObj C t) :: (t, excTup rest) :: news) → LCg.Off1 t news → LCg.Off1 e news → ((@Ne Nat e t)) →
      wpAny (model prog w) (A.under (.builtin "type.__call__" ⟨.ref C :: rest, []⟩)) (call (.ref fI) (.ref e :: rest)) (fun r s' => r = .none ∧ Q (.ref e) s') E { s with heap := h' }) (hrest : rest.length ≤ sizeLine := by size_fits) :
    wpAny (model prog w) A (call (.ref C) rest) Q E s := by
  have X := X₀.keeps F.keep
  unfold excOwn at e
  split at e
  · rename_i dd cd sl ddc ddT cdT slT oc1 dc1 sc1 hC hT hf
    split at e
    · rename_i C' T' bm k0 k1 k2 k3 n k5 hm hs
      simp only [Bool.and_eq_true, beq_iff_eq, Bool.not_eq_true'] at e
      obtain ⟨⟨⟨⟨⟨⟨⟨⟨rfl, rfl⟩, rfl⟩, hdel⟩, rfl⟩, hok⟩, hni⟩, hokT⟩, hiT⟩ := e
      obtain ⟨nm, bs, mro, ns, qn, hd, sn, sub, ab, col, del⟩ := cd
      dsimp only at hm hdel hok hni
      subst hm hdel
      have hsl : sl = #[k0, k1, k2, k3, some (.builtin n), k5] := by
        obtain ⟨l⟩ := sl
        simp only at hs
        rw [hs]
      subst hsl
      obtain ⟨hp, g, d, tk, os⟩ := s
      have lift : ∀ {x : String}, (Value.ref T' :: bm).contains (.type x) = bm.contains (.type x) := fun {x} => by rw [List.contains_cons]; rfl
      refine exc_call (hrest := hrest) FB rfl (lift.trans hB) (lift.trans hA) (lift.trans hN) (X _ _ hC) (.of_isNs (isNs_of_in X hok)) (nsMap_none_of_in X hok hni) (X _ _ hT) (.of_isNs (isNs_of_in X hokT)) (ns_some_of X (.of_isNs (isNs_of_in X hokT)) hiT) (X _ _ hf) rfl fun h' e hm => ?_
      obtain ⟨t, he, htn, ht⟩ := hm.there
      have fresh : ∀ b, hp.get? b = none → h₀.get? b = none := fun b hb => by
        cases hq : h₀.get? b with
        | none => rfl
        | some o' => have := F.keep b o' hq; rw [hb] at this; cases this
      have ne_of : ∀ b, hp.get? b = none → LCg.Off1 b news := fun b hb => by
        clear hq
        have : ∀ l : List (Addr × Obj), (∀ p ∈ l, p ∈ news) → LCg.Off1 b l := by
          intro l
          induction l with
          | nil => intro _; trivial
          | cons p r ih =>
            intro hl
            refine ⟨fun z => ?_, ih fun q hq => hl q (.tail _ hq)⟩
            have := (N p (hl p (.head _))).1
            dsimp only at this
            rw [z, hb] at this
            cases this
        exact this news fun _ h => h
      have neL : ∀ b, hp.get? b = none → b ≠ L := fun b hb z => by
        obtain ⟨o, es, ep, ho, _⟩ := F.ns
        dsimp only at ho
        rw [z, ho] at hb; cases hb
      have ne1 : e ≠ t := fun z => by
        rw [z, ht] at he
        have := congrArg (fun o : Option Obj => o.map (·.cls)) he
        simp at this
      refine hq h' e t (F.keeps hm.keeps) (fun p hp' => ?_) (ne_of t htn) (ne_of e hm.new) ne1
      rcases List.mem_cons.mp hp' with rfl | hp'
      · exact ⟨he, neL _ hm.new, fresh _ hm.new⟩
      · rcases List.mem_cons.mp hp' with rfl | hp'
        · exact ⟨ht, neL _ htn, fresh _ htn⟩
        · exact ⟨hm.keeps _ _ (N p hp').1, (N p hp').2⟩
    · cases e
  · cases e
end
-- part Exc2
section
open Builtin Builtin.ObjectAttr
abbrev excObjD (C t d : Addr) : Obj := { cls := .ref C, dict := some d, data := .fields #[.ref t, .none, .none, .none, .bool false, .none] }
def excTail : List Value → Bool
  | .ref _ :: r => excTail r
  | l => l == [.type "Exception", .type "BaseException", .type "object"]
theorem excTail_cases : ∀ {l : List Value}, excTail l = true → (∃ c r, l = .ref c :: r ∧ excTail r = true) ∨ l = [.type "Exception", .type "BaseException", .type "object"] := by
  intro l h
  unfold excTail at h
  split at h
  · exact .inl ⟨_, _, rfl, h⟩
  · exact .inr (beq_iff_eq.mp h)
theorem refuse_exc (self : Value) : ∀ {l : List Value}, excTail l = true → refuseLoop self "__setattr__" l = pure () := by
  intro l
  induction l with
  | nil => intro h; cases h
  | cons a r ih =>
    intro h
    rcases excTail_cases h with ⟨c, r', e, h'⟩ | e
    · cases e; rw [refuseLoop_ref]; exact ih h'
    · rw [e]; exact PySem.F.store_Exception.passes self
theorem excTail_has : ∀ {l : List Value}, excTail l = true → l.contains (.type "object") = true := by
  intro l
  induction l with
  | nil => intro h; cases h
  | cons a r ih =>
    intro h
    rcases excTail_cases h with ⟨c, r', e, h'⟩ | e
    · cases e; rw [List.contains_cons, ih h', Bool.or_true]
    · rw [e]; simp
def excOver (K : Frag) (C : Addr) : Bool := (clsIn K C).any fun cd => excTail cd.mro && cd.hasDict
section
variable {prog : Program} {w : World} {A : Around} {R : Result → Shared → Prop} {s : Shared} {K : Frag} {C x : Addr} {h₀ : Heap} {L : Addr} {m : Str → Option Value} {news : List (Addr × Obj)} {g : Obj → List (Addr × Obj)}
theorem osa_openE {ox : Obj} {od : Option Obj} {name : Str} {tk : Tok} {v : Value} {r : Option Value} (X : K.In s.heap) (I : InstAt s.heap x ox C od) (hp : excOver K C = true) (ht : takerIn K C name = some r)
    (h : ∀ b, wpAny (model prog w) A.in1 (match r with | some a => setByDescriptor a (.ref x) v | none => storeInOwnDict (.ref x) (.ref C) (.str name tk) name v b)
      (fun fin s' => match fin with | .done f => R (.ok f) s' | .again c' => c'.quiet = true ∧ codeAny (model prog w) A c' R s') (fun e s' => R (.error e) s') s) :
    codeAny (model prog w) A (.call (.builtin "object.__setattr__") ⟨[.ref x, .str name tk, v], []⟩) R s := by
  have SF := PySem.F.store_object
  obtain ⟨cd, hc, ho'⟩ := any_some hp
  have ho : excTail cd.mro = true := (Bool.and_eq_true_iff.mp ho').1
  have ne : cd.mro.isEmpty = false := by cases q : cd.mro with | nil => rw [q] at ho; cases ho | cons _ _ => rfl
  have sub : Looks (model prog w) s.heap (isInstance (.ref x) (.type "object")) true := I.type.andThen (looks_mroIn X (by unfold mroIn; rw [hc, Option.bind_some, if_neg (by rw [ne]; decide), excTail_has ho]))
  refine codeAny_call_builtin SF.slot.plain SF.entry (@check_slot (model prog w) _ _ s "object.__setattr__" "object" "__setattr__" (.ref x) [.str name tk, v] [] _ SF.kind SF.split sub (SF.args (.ref x) (.str name tk) v) ?_)
  obtain ⟨attr, ha, hr⟩ := Option.bind_eq_some_iff.mp ht
  have hm : Looks (model prog w) s.heap (mroOf (.ref C)) cd.mro := (looks_clsIn X hc).andThen .now
  have L3 : Looks (model prog w) s.heap (storeTaker? attr) r := by
    cases attr with
    | none => cases hr; exact .now
    | some a =>
      obtain ⟨b, hb, rfl⟩ := Option.map_eq_some_iff.mp hr
      refine (looks_takesIn X hb).andThen ?_
      cases b <;> exact .now
  rw [osa_eq, refuse_eq]
  refine wpAny_bind (wpAny_bind (I.type.here (wpAny_bind (hm.here ?_))))
  rw [refuse_exc _ ho]
  refine wpAny_pure (wpAny_bind (I.type.here (wpAny_bind ((looks_findIn X ha).here (wpAny_bind (L3.here ?_))))))
  exact h _
/-- the first attribute of an exception object: its dict is made -/
theorem exc_set1 {Q : Unit → Shared → Prop} {E : Value → Shared → Prop} {t : Addr} {name : Str} {v : Value} (F : Fr h₀ L s.heap m) (X₀ : K.In h₀) (N : News h₀ L s.heap news) (U : UpdF x (excObj C t) news g)
    (hp : excOver K C = true) (hs : findIn K (.ref C) "__setattr__" = some (some (.builtin "object.__setattr__"))) (ht : takerIn K C name = some none)
    (h : ∀ d h' o hsh tk, Fr h₀ L h' m → News h₀ L h' ((d, dictOf [⟨hsh, .str name tk, v⟩] 1) :: g o) → o = excObjD C t d → LCg.Off1 d news → Q () { s with heap := h', toks := s.toks + 2 }) :
    wpAny (model prog w) A (setAttr (.ref x) name v) Q E s := by
  have X := X₀.keeps F.keep
  obtain ⟨pre, post, hnews, hg, h1, h2⟩ := U.split
  have hm : (x, excObj C t) ∈ news := by rw [hnews]; simp
  have hx := (N _ hm).1
  dsimp only at hx
  have I : InstAt s.heap x (excObj C t) C none := ⟨hx, rfl, rfl, trivial⟩
  refine set_plain X I hs ?_
  refine osa_openE (s := { s with toks := s.toks + 1 }) X I hp ht fun b => ?_
  obtain ⟨cd, hc, ho'⟩ := any_some hp
  have hd' : cd.hasDict = true := (Bool.and_eq_true_iff.mp ho').2
  refine wpAny_bind (wpAny_pure (wpAny_bind (wpAny_bind (wpAny_loadPart hx (wpAny_bind (Looks.here (s := { s with toks := s.toks + 1 }) (looks_clsIn X hc) ?_))))))
  rw [hd']
  dsimp only
  have hx₁ : (s.heap.push { cls := .type "dict", data := .dict #[] }).get? x = some (excObj C t) := Heap.get?_push_of_some _ hx
  have hxs : x ≠ s.heap.objs.size := Nat.ne_of_lt (Heap.lt_size hx)
  refine wpAny_bind (wpAny_alloc ?_)
  refine wpAny_bind (wpAny_update hx₁ ?_)
  refine wpAny_pure ?_
  let H1 := (s.heap.push { cls := .type "dict", data := .dict #[] }).update x fun o => { o with dict := some s.heap.objs.size }
  have hgd : H1.get? s.heap.objs.size = some (dictOf [] 0) := (Heap.get?_update_ne _ _ _ _ hxs.symm).trans (Heap.get?_push_at rfl rfl)
  have hgx : H1.get? x = some (excObjD C t s.heap.objs.size) := Heap.get?_update_self _ hx₁ rfl
  have keep1 : ∀ b o, b ≠ x → s.heap.get? b = some o → H1.get? b = some o := fun b o hb hbo => (Heap.get?_update_ne _ _ _ _ hb).trans (Heap.get?_push_of_some _ hbo)
  have off : LCg.Off1 s.heap.objs.size news := by
    have : ∀ l : List (Addr × Obj), (∀ p ∈ l, p ∈ news) → LCg.Off1 s.heap.objs.size l := by
      intro l
      induction l with
      | nil => intro _; trivial
      | cons p r ih => exact fun hl => ⟨Nat.ne_of_lt (Heap.lt_size (N p (hl p (.head _))).1), ih fun q hq => hl q (.tail _ hq)⟩
    exact this news fun _ h => h
  refine wpAny_bind (wpAny_pure (wpAny_bind ?_))
  unfold nsSet
  refine wpAny_bind (wpAny_bind (wpAny_askSetting (wpAny_pure (wpAny_bind (wpAny_mkText (wpAny_bind (wpAny_loadPart (o := dictOf [] 0) hgd ?_)))))))
  dsimp only
  have c : (!(#[] : Array DictEntry).any (·.key.isStr name) && (#[] : Array DictEntry).any (·.refKey)) = false := by simp
  rw [aRefKeyMayBeTheName_at, c]
  refine wpAny_updatePart (o := dictOf [] 0) hgd ?_
  have e2 : Obj.putName name (PyData.keyHash w.params name) (.str name (s.toks + 1)) v (dictOf [] 0) = dictOf [⟨PyData.keyHash w.params name, .str name (s.toks + 1), v⟩] 1 := by
    rw [putName_dict]; rfl
  have hg2 := Heap.get?_update_self (Obj.putName name (PyData.keyHash w.params name) (.str name (s.toks + 1)) v) hgd (by rw [e2]; rfl)
  rw [e2] at hg2
  refine wpAny_bind (wpAny_lookBehind hg2 (pastItsLine_dict (by rw [sizeLine_eq]; exact Nat.le_of_ble_eq_true rfl)) ?_)
  have keep2 : ∀ b o, b ≠ s.heap.objs.size → H1.get? b = some o → (H1.update s.heap.objs.size (Obj.putName name (PyData.keyHash w.params name) (.str name (s.toks + 1)) v)).get? b = some o := fun b o hb hbo => (Heap.get?_update_ne _ _ _ _ hb).trans hbo
  have keep : ∀ b o, b ≠ x → s.heap.get? b = some o → (H1.update s.heap.objs.size (Obj.putName name (PyData.keyHash w.params name) (.str name (s.toks + 1)) v)).get? b = some o := fun b o hb hbo =>
    keep2 b o (Nat.ne_of_lt (Heap.lt_size hbo)) (keep1 b o hb hbo)
  have nL : L ≠ x := fun z => (N _ hm).2.1 z.symm
  have n0 : h₀.get? x = none := (N _ hm).2.2
  have F' : Fr h₀ L (H1.update s.heap.objs.size (Obj.putName name (PyData.keyHash w.params name) (.str name (s.toks + 1)) v)) m := by
    obtain ⟨o, es, ep, ho, r⟩ := F.ns
    exact ⟨⟨o, es, ep, keep _ _ nL ho, r⟩, fun b o e => keep b o (fun z => by rw [z, n0] at e; cases e) (F.keep b o e), F.above⟩
  have N' : News h₀ L (H1.update s.heap.objs.size (Obj.putName name (PyData.keyHash w.params name) (.str name (s.toks + 1)) v)) ((s.heap.objs.size, dictOf [⟨PyData.keyHash w.params name, .str name (s.toks + 1), v⟩] 1) :: g (excObjD C t s.heap.objs.size)) := by
    intro p hp
    rcases List.mem_cons.mp hp with rfl | hp
    · exact ⟨hg2, Nat.ne_of_gt F.ns.lt, none_at_size F⟩
    · rw [hg] at hp
      rcases List.mem_append.mp hp with hp | hp
      · have z := N p (by rw [hnews]; exact List.mem_append_left _ hp)
        exact ⟨keep _ _ (h1 p hp) z.1, z.2⟩
      · rcases List.mem_cons.mp hp with rfl | hp
        · exact ⟨keep2 _ _ hxs hgx, (N _ hm).2⟩
        · have z := N p (by rw [hnews]; exact List.mem_append_right _ (.tail _ hp))
          exact ⟨keep _ _ (h2 p hp) z.1, z.2⟩
  exact wpAny_pure (h s.heap.objs.size _ _ _ _ F' N' rfl off)
/-- a further attribute -/
theorem exc_set2 {Q : Unit → Shared → Prop} {E : Value → Shared → Prop} {t dx : Addr} {name : Str} {v : Value} {es : List DictEntry} {n : Nat} (F : Fr h₀ L s.heap m) (X₀ : K.In h₀) (N : News h₀ L s.heap news) (hm : (x, excObjD C t dx) ∈ news) (U : UpdF dx (dictOf es n) news g)
    (hp : excOver K C = true) (hs : findIn K (.ref C) "__setattr__" = some (some (.builtin "object.__setattr__"))) (ht : takerIn K C name = some none)
    (hr : es.any (·.refKey) = false) (hz : es.length ≤ 900)
    (h : ∀ h' o, Fr h₀ L h' m → News h₀ L h' (g o) → Q () { s with heap := h', toks := s.toks + 2 }) :
    wpAny (model prog w) A (setAttr (.ref x) name v) Q E s := by
  have X := X₀.keeps F.keep
  obtain ⟨pre, post, hnews, hg, h1, h2⟩ := U.split
  have hdm : (dx, dictOf es n) ∈ news := by rw [hnews]; simp
  have hx := (N _ hm).1
  have hD := (N _ hdm).1
  dsimp only at hx hD
  have I : InstAt s.heap x (excObjD C t dx) C (some (dictOf es n)) := ⟨hx, rfl, rfl, hD⟩
  refine set_plain X I hs ?_
  refine osa_openE (s := { s with toks := s.toks + 1 }) X I hp ht fun b => ?_
  obtain ⟨cd, hc, ho'⟩ := any_some hp
  have hd' : cd.hasDict = true := (Bool.and_eq_true_iff.mp ho').2
  refine wpAny_bind (wpAny_pure (wpAny_bind (wpAny_bind (wpAny_loadPart hx (wpAny_bind (Looks.here (s := { s with toks := s.toks + 1 }) (looks_clsIn X hc) ?_))))))
  rw [hd']
  refine wpAny_pure (a := some dx) (wpAny_bind (wpAny_pure (wpAny_bind ?_)))
  unfold nsSet
  refine wpAny_bind (wpAny_bind (wpAny_askSetting (wpAny_pure (wpAny_bind (wpAny_mkText (wpAny_bind (wpAny_loadPart hD ?_)))))))
  dsimp only
  have c : (!es.toArray.any (·.key.isStr name) && es.toArray.any (·.refKey)) = false := by
    have z : es.toArray.any (·.refKey) = false := by rw [← Array.any_toList]; exact hr
    rw [z, Bool.and_false]
  rw [aRefKeyMayBeTheName_at, c]
  refine wpAny_updatePart hD ?_
  have e2 : Obj.putName name (PyData.keyHash w.params name) (.str name (s.toks + 1)) v (dictOf es n) = dictOf (putL name (PyData.keyHash w.params name) (.str name (s.toks + 1)) v es) (putN name es n) := putName_dict ..
  rw [hnews] at N
  obtain ⟨U1, U2⟩ := news_upd (f := Obj.putName name (PyData.keyHash w.params name) (.str name (s.toks + 1)) v) F N h1 h2 e2 rfl
  have D' := (U2 (dx, dictOf (putL name (PyData.keyHash w.params name) (.str name (s.toks + 1)) v es) (putN name es n)) (by simp)).1
  have hl : ∀ l : List DictEntry, (putL name (PyData.keyHash w.params name) (.str name (s.toks + 1)) v l).length ≤ l.length + 1 := by
    intro l
    induction l with
    | nil => exact Nat.le_refl _
    | cons a r ih => unfold putL; split <;> simp only [List.length_cons] <;> omega
  refine wpAny_bind (wpAny_lookBehind D' (pastItsLine_dict (by rw [List.size_toArray, sizeLine_eq]; have := hl es; omega)) ?_)
  exact wpAny_pure (h _ _ U1 (by rw [hg]; exact U2))
/-- Exception.__init__(e, v) -/
theorem exc_init {B newId initId : String} {bmF bm0 : List Value} {Tb fI t : Addr} {rest : List Value} {Q : Value → Shared → Prop} {E : Value → Shared → Prop} (FB : ExcBaseFacts B newId initId bmF) (F : Fr h₀ L s.heap m) (X₀ : K.In h₀) (N : News h₀ L s.heap news) (U : UpdF x (excObj C t) news g)
    (e : excOwn K C Tb fI bm0 newId = true) (hB : bm0.contains (.type B) = true)
    (h : ∀ h' t', Fr h₀ L h' m → News h₀ L h' (g (excObj C t')) → Q .none { s with heap := h' }) (hrest : rest.length ≤ sizeLine := by size_fits) :
    wpAny (model prog w) A (call (.builtin initId) (.ref x :: rest)) Q E s := by
  have X := X₀.keeps F.keep
  obtain ⟨pre, post, hnews, hg, h1, h2⟩ := U.split
  have hm : (x, excObj C t) ∈ news := by rw [hnews]; simp
  have hx := (N _ hm).1
  dsimp only at hx
  unfold excOwn at e
  split at e
  · rename_i dd cd sl ddc ddT cdT slT oc1 dc1 sc1 hC hT hf
    split at e
    · rename_i C' T' bm k0 k1 k2 k3 n k5 hm' hs
      simp only [Bool.and_eq_true, beq_iff_eq, Bool.not_eq_true'] at e
      obtain ⟨⟨⟨⟨⟨⟨⟨⟨rfl, rfl⟩, rfl⟩, hdel⟩, rfl⟩, hok⟩, hni⟩, hokT⟩, hiT⟩ := e
      obtain ⟨nm, bs, mro, ns, qn, hd, sn, sub, ab, col, del⟩ := cd
      dsimp only at hm' hdel hok hni
      subst hm' hdel
      have hsl : sl = #[k0, k1, k2, k3, some (.builtin n), k5] := by
        obtain ⟨l⟩ := sl
        simp only at hs
        rw [hs]
      subst hsl
      have hC := X _ _ hC
      obtain ⟨hp, gs, d, tk, os⟩ := s
      have hcB : (Value.ref C' :: Value.ref T' :: bm).contains (.type B) = true := by rw [List.contains_cons, List.contains_cons, hB]; simp
      have hshort := FB.noStar
      refine wpAny_call (codeAny_call_builtin FB.init.plain FB.initEntry ?_)
      have chk : ∀ {Q : Unit → Shared → Prop} {E : Value → Shared → Prop} {A : Around}, Q () ⟨hp, gs, d, tk, os⟩ → wpAny (model prog w) A (checkBuiltinCall initId ⟨.ref x :: rest, []⟩) Q E ⟨hp, gs, d, tk, os⟩ := by
        intro Q E A hq
        simp only [checkBuiltinCall, FB.initKind, FB.initSplit, FB.initRow]
        repeat (first | (with_reducible refine wpAny_loadPart_at hx ?_; dsimp only) | with_reducible refine wpAny_loadPart_at hC ?_ | (with_reducible refine wpAny_isSubtype_exc hC ?_; rw [hcB]) | wp_step)
        refine wpAny_onRaise ?_
        rw [show ∀ (a b : String) (n : Nat), Bind.check ⟨.positional, "*", B, .self, [⟨"args", .varPos, false⟩]⟩ a b n (List.map (fun x => x.fst) ({ pos := Value.ref x :: rest } : Args).kw) = pure () from
          fun a b n => check_star_args _ _ _ _ _ _]
        exact wpAny_pure hq
      refine chk ?_
      unfold Builtin.«BaseException.__init__»
      dsimp only
      rw [if_neg (by simp)]
      unfold newTuple Builtin.BaseException.bexcPut
      have he₁ := Heap.get?_push_of_some (h := hp) { cls := .type "tuple", data := .seq rest.toArray } hx
      refine wpAny_bind (wpAny_newObj_type (wpAny_bind (wpAny_bind (wpAny_field he₁ rfl rfl (wpAny_bind (wpAny_setField he₁ rfl (by show 0 < 6; decide) ?_))))) (by size_fits))
      refine wpAny_letGo (wpAny_pure ?_)
      have F1 := F.push { cls := .type "tuple", data := .seq rest.toArray }
      have N1 : News h₀ L (hp.push { cls := .type "tuple", data := .seq rest.toArray }) news := N.grown fun _ _ e => Heap.get?_push_of_some _ e
      rw [hnews] at N1
      obtain ⟨U1, U2⟩ := news_upd (f := Obj.mapFields (·.setIfInBounds 0 (.ref hp.objs.size))) (o' := excObj C' hp.objs.size) F1 N1 h1 h2 rfl rfl
      exact h _ _ U1 (by rw [hg]; exact U2)
    · cases e
  · cases e
end
end
-- part Exc3
/-- the frames' addresses of a list of environments -/
abbrev fsOf (l : List Env) : List Addr := l.filterMap (·.frame)
/-- an exception of an own class C, at e, that has left the frames above l: what stood in G (l's frames apart) and the ledger news stand -/
def Raised (base G : Heap) (l : List Env) (e C : Addr) (news : List (Addr × Obj)) (h : Heap) : Prop :=
  (∃ B a0, base.StaysIn B ∧ (∀ b o, G.get? b = some o → b ∉ fsOf l → B.get? b = some o) ∧ (∀ q ∈ news, B.get? q.1 = some q.2 ∧ G.get? q.1 = none ∧ base.get? q.1 = none) ∧ Heap.FlyingW B l e (.ref C) a0 h) ∧ G.UpToSlots h
theorem Raised.drop {base G : Heap} {l : List Env} {e C : Addr} {news news' : List (Addr × Obj)} {h : Heap} (R : Raised base G l e C news h) (hs : ∀ p ∈ news', p ∈ news) : Raised base G l e C news' h := by
  obtain ⟨⟨B, a0, h1, h2, h3, h4⟩, h5⟩ := R
  exact ⟨⟨B, a0, h1, h2, fun q hq => h3 q (hs q hq), h4⟩, h5⟩
section
variable {M : Model} {A : Around} {E : Value → Shared → Prop} {s' : Shared} {base g g₂ : Heap} {outer : List Env} {L e C t d : Addr} {m : Str → Option Value} {env : Env} {Q : Unit → Shared → Prop} {news all : List (Addr × Obj)}
theorem fs_mem {b : Addr} (hf : env.frame = some L) (hm : b ∈ fsOf (env :: outer)) : b = L ∨ b ∈ fsOf outer := by
  obtain ⟨env', he, hf'⟩ := List.mem_filterMap.mp hm
  rcases List.mem_cons.mp he with rfl | he
  · exact .inl (Option.some.inj (hf'.symm.trans hf))
  · exact .inr (List.mem_filterMap.mpr ⟨env', he, hf'⟩)
theorem leave_first (K : Below A base outer g) (F : Fr g L s'.heap m) (N : News g L s'.heap all) (he : (e, excObjD C t d) ∈ all) (hs : ∀ p ∈ news, p ∈ all ∧ p.1 ≠ e)
    (hf : env.frame = some L) (hke : env.scope.kind = .function)
    (hQ : ∀ h', Raised base g outer e C news h' → Q () { s' with heap := h' }) : wpAny M (A.deeper env) (leaving env (.ref e)) Q E s' := by
  have K' := pushX K F hf hke
  have hem := N _ he
  dsimp only at hem
  have hen : g.get? e = none := hem.2.2
  have hb0 : ∀ b, g.get? b = none → base.get? b = none := fun b hb => by
    cases q : base.get? b with
    | none => rfl
    | some o => have := K.stays b o q; rw [hb] at this; cases this
  let as := e :: fsOf (env :: outer)
  have hin : ∀ env' ∈ (env :: outer), ∀ b, env'.frame = some b → b ∈ as := fun env' h' b hb => .tail _ (List.mem_filterMap.mpr ⟨env', h', hb⟩)
  have hL0 : g.get? L = none := kts_self F
  have outside : ∀ b o, g.get? b = some o → b ∉ fsOf outer → b ∉ as := fun b o hb ho hm => by
    rcases List.mem_cons.mp hm with rfl | hm
    · rw [hen] at hb; cases hb
    · rcases fs_mem hf hm with rfl | hm
      · rw [hL0] at hb; cases hb
      · exact ho hm
  have nfr : ∀ b, g.get? b = none → b ∉ fsOf outer := fun b hb hm => by
    obtain ⟨_, o, ho, _⟩ := K.frames.mem hm
    rw [hb] at ho; cases ho
  refine wpAny_leaving_firstW (base := hideAll s'.heap as) (a0 := .ref t) (Around.frames_deeper K.stack) (funFrames_hide K'.frames hin) hf hem.1 (fun b o q => of_hideAll _ q) (hideAll_none _ (.head _)) rfl rfl rfl fun h' hL => ?_
  obtain ⟨k1, ⟨_, _, k2⟩, k3, k4⟩ := hL
  refine hQ h' ⟨⟨_, .ref t, fun b o q => hideAll_get _ (F.keep _ _ (K.stays b o q)) (outside b o (K.stays b o q) fun hm => by rw [(K.frames.mem hm).1] at q; cases q), fun b o q hn => hideAll_get _ (F.keep _ _ q) (outside b o q hn), fun q hq => ?_, k1, hideAll_none _ (.head _), k2, k3⟩, (Heap.UpToSlots.of_keeps F.keep).trans k4⟩
  obtain ⟨hq1, hq2⟩ := hs q hq
  have z := N q hq1
  refine ⟨hideAll_get _ z.1 fun hm => ?_, z.2.2, hb0 _ z.2.2⟩
  rcases List.mem_cons.mp hm with hm | hm
  · exact hq2 hm
  · rcases fs_mem hf hm with hm | hm
    · exact z.2.1 hm
    · exact nfr _ z.2.2 hm
theorem leave_next (K : Below A base outer g) (F : Fr g L g₂ m) (R : Raised base g₂ (env :: outer) e C news s'.heap) (hf : env.frame = some L)
    (hQ : ∀ h', Raised base g outer e C news h' → Q () { s' with heap := h' }) : wpAny M (A.deeper env) (leaving env (.ref e)) Q E s' := by
  obtain ⟨⟨B, a0, hB, hBG, hl, hfl⟩, hsm⟩ := R
  refine wpAny_leaves_onW (Around.frames_deeper K.stack) hf hfl fun h' x1 x2 => hQ h' ⟨⟨B, a0, hB, fun b o q nm => hBG b o (F.keep b o q) fun hm => ?_, fun q hq => ⟨(hl q hq).1, kts_none F.keep (hl q hq).2.1, (hl q hq).2.2⟩, x1⟩, (Heap.UpToSlots.of_keeps F.keep).trans (hsm.trans x2)⟩
  rcases fs_mem hf hm with z | z
  · rw [z, kts_self F] at q; cases q
  · exact nm z
end
section
variable {prog : Program} {w : World} {A₀ : Around} {E : Value → Shared → Prop} {s' : Shared} {base g G : Heap} {outer : List Env} {L a e C : Addr} {m : Str → Option Value} {name : Str} {scope : Scope} {cd : Value}
  {b₀ : Stmt} {suite : List Stmt} {pos np : Pos} {rest : List ExceptHandler} {Q : Flow → Shared → Prop} {news : List (Addr × Obj)} {KF : Frag}
  {p : Program} {loose : List Str} {mean : ExcName → Option Value} {mg mb : Str → Option Value} {x : Str} {Tb fI : Addr} {bm0 : List Value} {newId : String}
theorem exc_cls {h : Heap} (X : KF.In h) (q : excOwn KF C Tb fI bm0 newId = true) : ∃ nm qn N bs hdct sn sub ab col dd k0 k1 k2 k3 k5,
    h.get? C = some (excClassObj nm qn C N bs (.ref Tb :: bm0) hdct sn sub ab col dd k0 k1 k2 k3 k5 newId) := by
  unfold excOwn at q
  split at q
  · rename_i dd cd sl ddc ddT cdT slT oc1 dc1 sc1 hC hT hf
    split at q
    · rename_i C' T' bm k0 k1 k2 k3 n k5 hm hs
      simp only [Bool.and_eq_true, beq_iff_eq, Bool.not_eq_true'] at q
      obtain ⟨⟨⟨⟨⟨⟨⟨⟨rfl, rfl⟩, rfl⟩, hdel⟩, rfl⟩, hok⟩, hni⟩, hokT⟩, hiT⟩ := q
      obtain ⟨nm, bs, mro, ns, qn, hd, sn, sub, ab, col, del⟩ := cd
      dsimp only at hm hdel hok hni
      subst hm hdel
      have hsl : sl = #[k0, k1, k2, k3, some (.builtin n), k5] := by
        obtain ⟨l⟩ := sl
        simp only at hs
        rw [hs]
      subst hsl
      exact ⟨_, _, _, _, _, _, _, _, _, _, _, _, _, _, _, X _ _ hC⟩
    · cases q
  · cases q
/-- the frame that catches an own class by its own name -/
theorem caught_own (R : Raised base G (envOf name scope L a cd :: outer) e C news s'.heap) (F : Fr g L G m) (K : Below A₀ base outer g) (XB : KF.In base) (TB : Top p loose mean mg mb base)
    (q : excOwn KF C Tb fI bm0 newId = true) (hbase : bm0.contains (.type "BaseException") = true) (ex : nsIn KF mainGlobals x = some (some (.ref C)))
    (k : ∀ h' g', KtsTurn (fsOf outer) g g' → Fr g' L h' m → News g' L h' news → Below A₀ base outer g' → KF.In g' → Top p loose mean mg mb g' →
      wpAny (model prog w) ((A₀.deeper (envOf name scope L a cd)).mark (some (.ref e))) (execs (b₀ :: suite) (envOf name scope L a cd)) Q (fun _ _ => False) { s' with heap := h' })
    (hk : scope.kind = .function := by rfl) (hx : (envOf name scope L a cd).kindOf x = some .globalImplicit := by rfl) (hd : (x == ("__debug__" : Str)) = false := by decide) :
    wpAny (model prog w) (A₀.deeper (envOf name scope L a cd)) (noteFrame (.ref e) (envOf name scope L a cd))
      (fun _ s₂ => wpAny (model prog w) (A₀.deeper (envOf name scope L a cd)) (setFlight (.ref e) none) (fun _ s₃ =>
        wpAny (model prog w) (A₀.deeper (envOf name scope L a cd)) (handleBy (.ref e) (envOf name scope L a cd) (.ExceptHandler (some (.Name x np)) none (b₀ :: suite) pos :: rest)) Q E s₃) E s₂) E s' := by
  obtain ⟨⟨B, a0, hB, hBG, hl, hfl⟩, hsm⟩ := R
  have hL : B.get? L = none := by
    obtain ⟨_, ⟨L', _, hf, hn', _⟩, _⟩ := hfl.2.2.1
    obtain rfl : L = L' := Option.some.inj hf
    exact hn'
  refine wpAny_looks_onW (Around.frames_deeper K.stack) rfl hfl fun h₄ hheld₄ hsm₄ => ?_
  refine wpAny_landsW hheld₄ fun h₅ hheld hsm₅' => ?_
  have hsm₅ := hsm₄.trans hsm₅'
  obtain ⟨g₅, T₅, F₅, K₅⟩ := kts_ground K F hBG hheld.1 (hsm.trans hsm₅)
  have X₅ : KF.In g₅ := XB.keeps K₅.stays
  have P₅ : TopRead p loose mg mb g₅ := topRead_of (TB.keeps K₅.stays)
  obtain ⟨ob, hob, hobc⟩ := hheld.there
  refine wpAny_handleBy_cons (codeAny_handlers_test (name_K F₅ X₅ P₅ ex ?_ hk hx hd)) (by intro q; cases q)
  obtain ⟨nm, qn, N, bs, hdct, sn, sub, ab, col, dd, k0, k1, k2, k3, k5, hC⟩ := exc_cls (X₅.keeps F₅.keep) q
  have hbase' : (Value.ref Tb :: bm0).contains (.type "BaseException") = true := by rw [List.contains_cons, hbase, Bool.or_true]
  refine wpAny_excMatches_sub_self hC hob hobc hbase' (codeAny_handlers_suite ?_)
  refine lands_againW hheld fun h₆ hfl₆ hsm₆ => ?_
  obtain ⟨g₆, T₆, F₆, K₆⟩ := kts_ground K F hBG hfl₆.1 ((hsm.trans hsm₅).trans hsm₆)
  have N₆ : News g₆ L h₆ news := fun q hq => ⟨hfl₆.1 _ _ (hl q hq).1, (fun z => by have := (hl q hq).1; rw [z, hL] at this; cases this), T₆.none_ _ (kts_none F.keep (hl q hq).2.1)⟩
  exact wpAny_mono (k h₆ g₆ T₆ F₆ N₆ K₆ (XB.keeps K₆.stays) (TB.keeps K₆.stays)) (fun _ _ z => z) fun _ _ z => z.elim
end
section
variable {prog : Program} {w : World} {A₀ A : Around} {s : Shared} {base h₀ g g' h : Heap} {outer : List Env} {L L' : Addr} {m m' : Str → Option Value} {env : Env} {news news' : List (Addr × Obj)} {K : Frag}
  {p : Program} {loose : List Str} {mean : ExcName → Option Value} {mg mb : Str → Option Value}
/-- back in the caller's frame, the frames' slots turned -/
theorem back_turned (B : Below A₀ base outer h₀) (FG : Fr h₀ L g m) (hf : env.frame = some L) (T : KtsTurn (fsOf (env :: outer)) g g') (F' : Fr g' L' h m') (N' : News g' L' h news') (XB : K.In base) (TB : Top p loose mean mg mb base) :
    ∃ h₀', KtsTurn (fsOf outer) h₀ h₀' ∧ Fr h₀' L h m ∧ News h₀' L h news' ∧ Below A₀ base outer h₀' ∧ K.In h₀' ∧ Top p loose mean mg mb h₀' := by
  obtain ⟨oL, es, ep, hLg, hLd, hLk, hLf⟩ := FG.ns
  have nL₀ : h₀.get? L = none := kts_self FG
  obtain ⟨sl, hs⟩ := T.up hLg
  obtain ⟨T₁, S₁⟩ := kts_turn_at (h := h) (fs := fsOf outer) (g := h₀)
    (fun b hb => by
      obtain ⟨_, o, ho', _⟩ := B.frames.mem hb
      exact ⟨o, ho'⟩)
    (fun b o e nmem => F'.keep b o (T.other b o (FG.keep b o e) (fun q => by
      rcases fs_mem hf q with z | z
      · rw [z, nL₀] at e
        cases e
      · exact nmem z)))
    (fun b o e hm => by
      obtain ⟨sl', hs'⟩ := T.up (FG.keep b o e)
      exact ⟨sl', F'.keep _ _ hs'⟩)
  have B₃ : Below A₀ base outer (ktsHeap h (fsOf outer) h₀) := ⟨B.stack, fun b o e => T₁.other b o (B.stays b o e) (fun hm => by
    rw [(B.frames.mem hm).1] at e
    cases e), B.frames.of_keeps fun b o e _ => by
      obtain ⟨sl', hs'⟩ := T₁.up e
      exact ⟨_, hs', rfl⟩⟩
  refine ⟨_, T₁, ⟨⟨_, es, ep, F'.keep _ _ hs, hLd, hLk, hLf⟩, S₁, by rw [T₁.size]; exact FG.above⟩, fun q hq => ⟨(N' q hq).1, fun z => ?_, ?_⟩, B₃, XB.keeps B₃.stays, TB.keeps B₃.stays⟩
  · have := (N' q hq).2.2; rw [z, hs] at this; cases this
  · refine T₁.none_ _ ?_
    cases z : h₀.get? q.1 with
    | none => rfl
    | some o =>
      obtain ⟨sl', hs'⟩ := T.up (FG.keep _ _ z)
      have := (N' q hq).2.2
      rw [hs'] at this
      cases this
/-- a call entered, its end told at the state itself -/
theorem enterT {R : Result → Shared → Prop} {name qual : Str} {params : Arguments} {body : List Stmt} {scope : Scope} {cl : List (Str × Addr)} {dV kV doc pm cdv ct oc : Value} {an od : Option Addr} {osl : Array (Option Value)} {f : Addr} {args : Args} {binds : List (Str × Value)}
    (B : Below A₀ base outer h₀) (F : Fr h₀ L s.heap m) (X₀ : K.In h₀) (N : News h₀ L s.heap news) (T : Top p loose mean mg mb h₀) (hA : A.frames = some (env :: outer)) (hf : env.frame = some L) (hke : env.scope.kind = .function)
    (ho : K.lookup f = some ⟨oc, od, .func (fnOf name qual params body scope dV kV doc pm an cdv ct), osl⟩) (hcd : codeIn K cdv qual = true) (hroom : A.depth < recursionLimit)
    (hbind : BindsTo s (fnOf name qual params body scope dV kV doc pm an cdv ct) args binds) (hloc : ∀ y ∈ binds, scope.names.lookup y.1 = some .local)
    (h : ∀ g L' h₁, Fr h₀ L g m → Fr g L' h₁ (fun y => binds.reverse.lookup y) → News g L' h₁ news → Below A base (env :: outer) g → K.In g → Top p loose mean mg mb g → (∀ p ∈ news, p.1 < L') →
      wpAny (model prog w) (A.deeper (envOf qual scope L' f cdv)) (execs body (envOf qual scope L' f cdv))
        (fun fl s' => R (.ok (.ret (match fl with | .ret v => v | _ => .none))) s')
        (fun e s' => wpAny (model prog w) (A.deeper (envOf qual scope L' f cdv)) (leaving (envOf qual scope L' f cdv) e) (fun _ s'' => R (.error e) s'') (fun e' s'' => R (.error e') s'') s')
        { s with heap := h₁, toks := s.toks + binds.length })
    (hco : scope.isCoroutine = false) (hgen : scope.isGenerator = false) (hk : scope.kind = .function)
    (hcell : ∀ x ∈ scope.names, x.2 ≠ .cell) : codeAny (model prog w) A (.call (.ref f) args) R s := by
  have X := X₀.keeps F.keep
  obtain ⟨FG, BG, st, -⟩ := groundX (R := R) B F N hA hf hke
  refine codeAny_call_def (fd := fnOf name qual params body scope dV kV doc pm an cdv ct) (body := body) (binds := binds) hroom (X _ _ ho) rfl (T.nolimit.keeps F.keep) (codeRec_of X hcd) rfl hbind hcell hloc (fun h₁ hns hk₁ => ?_) hco hgen hk
  exact h _ s.heap.objs.size h₁ FG ⟨hns, fun b o e => hk₁ b o (of_hideAll _ e), Nat.le_of_eq (hideAll_size _ _)⟩
    (fun p hp => ⟨hk₁ _ _ (N p hp).1, Nat.ne_of_lt (Heap.lt_size (N p hp).1), hideAll_none _ (List.mem_map_of_mem hp)⟩) BG (X₀.keeps st) (T.keeps st) fun p hp => Heap.lt_size (N p hp).1
/-- the same, of a def with cells -/
theorem enterCT {R : Result → Shared → Prop} {name qual : Str} {params : Arguments} {body : List Stmt} {scope : Scope} {dV kV doc pm cdv ct oc : Value} {an od : Option Addr} {osl : Array (Option Value)} {f : Addr} {args : Args} {binds : List (Str × Value)}
    (B : Below A₀ base outer h₀) (F : Fr h₀ L s.heap m) (X₀ : K.In h₀) (N : News h₀ L s.heap news) (T : Top p loose mean mg mb h₀) (hA : A.frames = some (env :: outer)) (hf : env.frame = some L) (hke : env.scope.kind = .function)
    (ho : K.lookup f = some ⟨oc, od, .func (fnOf name qual params body scope dV kV doc pm an cdv ct), osl⟩) (hcd : codeIn K cdv qual = true) (hroom : A.depth < recursionLimit)
    (hbind : BindsTo s (fnOf name qual params body scope dV kV doc pm an cdv ct) args binds) (hkind : (binds.all fun y => scope.names.lookup y.1 == some .local || scope.names.lookup y.1 == some .cell) = true)
    (hnd : ((cellsFrom 0 scope.names []).map (·.1)).Nodup)
    (h : ∀ g L' h₁ tk cells, Fr h₀ L g m → Fr g L' h₁ (bindL (envOfC qual scope L' f cdv).kindOf binds fun _ => none) → News g L' h₁ (cells ++ news) →
      CellsAre (bindC (envOfC qual scope L' f cdv).kindOf binds fun _ => none) (cellsFrom (L' + 1) scope.names []) cells → Below A base (env :: outer) g → K.In g → Top p loose mean mg mb g → (∀ p ∈ news, p.1 < L') →
      wpAny (model prog w) (A.deeper (envOfC qual scope L' f cdv)) (execs body (envOfC qual scope L' f cdv))
        (fun fl s' => R (.ok (.ret (match fl with | .ret v => v | _ => .none))) s')
        (fun e s' => wpAny (model prog w) (A.deeper (envOfC qual scope L' f cdv)) (leaving (envOfC qual scope L' f cdv) e) (fun _ s'' => R (.error e) s'') (fun e' s'' => R (.error e') s'') s')
        { s with heap := h₁, toks := tk })
    (hco : scope.isCoroutine = false) (hgen : scope.isGenerator = false) (hk : scope.kind = .function) : codeAny (model prog w) A (.call (.ref f) args) R s := by
  have X := X₀.keeps F.keep
  obtain ⟨FG, BG, st, -⟩ := groundX (R := R) B F N hA hf hke
  refine codeAny_call_function hroom (X _ _ ho) rfl hco hgen rfl (codeRec_of X hcd) (hbind _ _ _ _ ?_)
  refine wpAny_newFunctionEnv_cells hk (kindsX hkind _) fun env' he s' x => ?_
  subst he
  refine ⟨(T.nolimit.keeps F.keep).keeps x.toInCall.keep, codeAny_func ?_⟩
  obtain ⟨h₁, tk, rfl, _⟩ := x.done
  have hk₁ := x.toInCall.keep
  obtain ⟨cells, NC, Y⟩ := Cl.news (h₀ := s.heap) (Nat.le_refl _) fun n c hm => ⟨x.cell n c (lookup_of_mem_nodup (cellsFrom_names scope.names 0 (s.heap.objs.size + 1) [] [] rfl ▸ hnd) hm), x.above n c hm⟩
  refine h _ s.heap.objs.size h₁ tk cells FG ⟨x.toInCall.ns, fun b o e => hk₁ b o (of_hideAll _ e), Nat.le_of_eq (hideAll_size _ _)⟩ (fun p hp => ?_) Y BG (X₀.keeps st) (T.keeps st) fun p hp => Heap.lt_size (N p hp).1
  rcases List.mem_append.mp hp with hp | hp
  · refine ⟨(NC p hp).1, (NC p hp).2.1, ?_⟩
    cases q : (hideAll s.heap (news.map (·.1))).get? p.1 with
    | none => rfl
    | some o => have := of_hideAll _ q; rw [(NC p hp).2.2] at this; cases this
  · exact ⟨hk₁ _ _ (N p hp).1, Nat.ne_of_lt (Heap.lt_size (N p hp).1), hideAll_none _ (List.mem_map_of_mem hp)⟩
end
section
variable {prog : Program} {w : World} {A : Around} {E : Value → Shared → Prop} {s : Shared} {K : Frag} {C Tb fI : Addr} {bm0 : List Value} {newId : String} {env : Env}
/-- what raise X(..) leaves -/
def RaiseEnd (K : Frag) (C Tb fI : Addr) (bm0 : List Value) (newId : String) (E : Value → Shared → Prop) (v : Value) (s₁ : Shared) : Prop :=
  ∃ e t d, v = .ref e ∧ K.In s₁.heap ∧ excOwn K C Tb fI bm0 newId = true ∧ bm0.contains (.type "BaseException") = true ∧ s₁.heap.get? e = some (excObjD C t d) ∧ E (.ref e) s₁
theorem raise_own {x : PySem.Expr} {pos : Pos} {Q : Flow → Shared → Prop} {h₀ : Heap} (X₀ : K.In h₀) (hh : A.handled = none) (h : wpAny (model prog w) A (eval x env) (RaiseEnd K C Tb fI bm0 newId E) E s) :
    wpAny (model prog w) A (exec (.Raise (some x) none pos) env) Q E s := by
  rw [arm_exec_Raise]
  refine wpAny_bind (wpAny_standAt ?_)
  show wpAny _ _ (raiseStmt env (some (eval x env >>= fun v => standAt pos >>= fun _ => pure v)) none) _ _ _
  unfold raiseStmt
  dsimp only
  refine wpAny_bind (wpAny_bind (wpAny_mono h (fun v s₁ h₁ => wpAny_bind (wpAny_standAt (wpAny_pure ?_))) fun _ _ x => x))
  obtain ⟨e, t, d, rfl, X, q, hbase, he, hE⟩ := h₁
  obtain ⟨nm, qn, N, bs, hdct, sn, sub, ab, col, dd, k0, k1, k2, k3, k5, hC⟩ := exc_cls X q
  have hcB : (Value.ref C :: Value.ref Tb :: bm0).contains (.type "BaseException") = true := by rw [List.contains_cons, List.contains_cons, hbase]; simp
  obtain ⟨hp, g, d', tk, os⟩ := s₁
  repeat (first | with_reducible refine wpAny_loadPart_at he ?_ | with_reducible refine wpAny_loadPart_at hC ?_ | (with_reducible refine wpAny_isSubtype_exc hC ?_; rw [hcB]) | wp_step)
  exact wpAny_raiseNew_none hh hE
end
-- part Exc4
/-- g holds what h holds, the ledger n0 apart, and nothing else -/
def Ground (h : Heap) (n0 : List (Addr × Obj)) (g : Heap) : Prop := (∀ b o, h.get? b = some o → b ∉ n0.map (·.1) → g.get? b = some o) ∧ ∀ b o, g.get? b = some o → h.get? b = some o
section
variable {prog : Program} {w : World} {A₀ A : Around} {s : Shared} {base h₀ g h' : Heap} {outer : List Env} {L L' : Addr} {m m' : Str → Option Value} {env : Env} {n0 all new' : List (Addr × Obj)} {K : Frag}
  {p : Program} {loose : List Str} {mean : ExcName → Option Value} {mg mb : Str → Option Value}
theorem enterG {R : Result → Shared → Prop} {name qual : Str} {params : Arguments} {body : List Stmt} {scope : Scope} {dV kV doc pm cdv ct oc : Value} {an od : Option Addr} {osl : Array (Option Value)} {f : Addr} {args : Args} {binds : List (Str × Value)}
    (B : Below A₀ base outer h₀) (F : Fr h₀ L s.heap m) (X₀ : K.In h₀) (N : News h₀ L s.heap n0) (T : Top p loose mean mg mb h₀) (hA : A.frames = some (env :: outer)) (hf : env.frame = some L) (hke : env.scope.kind = .function)
    (ho : K.lookup f = some ⟨oc, od, .func (fnOf name qual params body scope dV kV doc pm an cdv ct), osl⟩) (hcd : codeIn K cdv qual = true) (hroom : A.depth < recursionLimit)
    (hbind : BindsTo s (fnOf name qual params body scope dV kV doc pm an cdv ct) args binds) (hloc : ∀ y ∈ binds, scope.names.lookup y.1 = some .local)
    (h : ∀ g L' h₁, Fr h₀ L g m → Fr g L' h₁ (fun y => binds.reverse.lookup y) → News g L' h₁ n0 → Below A base (env :: outer) g → K.In g → Top p loose mean mg mb g → AllLt L' n0 → Ground s.heap n0 g →
      wpAny (model prog w) (A.deeper (envOf qual scope L' f cdv)) (execs body (envOf qual scope L' f cdv))
        (fun fl s' => R (.ok (.ret (match fl with | .ret v => v | _ => .none))) s')
        (fun e s' => wpAny (model prog w) (A.deeper (envOf qual scope L' f cdv)) (leaving (envOf qual scope L' f cdv) e) (fun _ s'' => R (.error e) s'') (fun e' s'' => R (.error e') s'') s')
        { s with heap := h₁, toks := s.toks + binds.length })
    (hco : scope.isCoroutine = false) (hgen : scope.isGenerator = false) (hk : scope.kind = .function)
    (hcell : ∀ x ∈ scope.names, x.2 ≠ .cell) : codeAny (model prog w) A (.call (.ref f) args) R s := by
  have X := X₀.keeps F.keep
  obtain ⟨FG, BG, st, -⟩ := groundX (R := R) B F N hA hf hke
  refine codeAny_call_def (fd := fnOf name qual params body scope dV kV doc pm an cdv ct) (body := body) (binds := binds) hroom (X _ _ ho) rfl (T.nolimit.keeps F.keep) (codeRec_of X hcd) rfl hbind hcell hloc (fun h₁ hns hk₁ => ?_) hco hgen hk
  exact h _ s.heap.objs.size h₁ FG ⟨hns, fun b o e => hk₁ b o (of_hideAll _ e), Nat.le_of_eq (hideAll_size _ _)⟩
    (fun p hp => ⟨hk₁ _ _ (N p hp).1, Nat.ne_of_lt (Heap.lt_size (N p hp).1), hideAll_none _ (List.mem_map_of_mem hp)⟩) BG (X₀.keeps st) (T.keeps st) (allLt_of fun p hp => Heap.lt_size (N p hp).1)
    ⟨fun b o e hn => hideAll_get _ e hn, fun b o e => of_hideAll _ e⟩
theorem enterCG {R : Result → Shared → Prop} {name qual : Str} {params : Arguments} {body : List Stmt} {scope : Scope} {dV kV doc pm cdv ct oc : Value} {an od : Option Addr} {osl : Array (Option Value)} {f : Addr} {args : Args} {binds : List (Str × Value)}
    (B : Below A₀ base outer h₀) (F : Fr h₀ L s.heap m) (X₀ : K.In h₀) (N : News h₀ L s.heap n0) (T : Top p loose mean mg mb h₀) (hA : A.frames = some (env :: outer)) (hf : env.frame = some L) (hke : env.scope.kind = .function)
    (ho : K.lookup f = some ⟨oc, od, .func (fnOf name qual params body scope dV kV doc pm an cdv ct), osl⟩) (hcd : codeIn K cdv qual = true) (hroom : A.depth < recursionLimit)
    (hbind : BindsTo s (fnOf name qual params body scope dV kV doc pm an cdv ct) args binds) (hkind : (binds.all fun y => scope.names.lookup y.1 == some .local || scope.names.lookup y.1 == some .cell) = true)
    (hnd : ((cellsFrom 0 scope.names []).map (·.1)).Nodup)
    (h : ∀ g L' h₁ tk cells, Fr h₀ L g m → Fr g L' h₁ (bindL (envOfC qual scope L' f cdv).kindOf binds fun _ => none) → News g L' h₁ (cells ++ n0) →
      CellsAre (bindC (envOfC qual scope L' f cdv).kindOf binds fun _ => none) (cellsFrom (L' + 1) scope.names []) cells → Below A base (env :: outer) g → K.In g → Top p loose mean mg mb g → (∀ p ∈ n0, p.1 < L') → Ground s.heap n0 g →
      wpAny (model prog w) (A.deeper (envOfC qual scope L' f cdv)) (execs body (envOfC qual scope L' f cdv))
        (fun fl s' => R (.ok (.ret (match fl with | .ret v => v | _ => .none))) s')
        (fun e s' => wpAny (model prog w) (A.deeper (envOfC qual scope L' f cdv)) (leaving (envOfC qual scope L' f cdv) e) (fun _ s'' => R (.error e) s'') (fun e' s'' => R (.error e') s'') s')
        { s with heap := h₁, toks := tk })
    (hco : scope.isCoroutine = false) (hgen : scope.isGenerator = false) (hk : scope.kind = .function) : codeAny (model prog w) A (.call (.ref f) args) R s := by
  have X := X₀.keeps F.keep
  obtain ⟨FG, BG, st, -⟩ := groundX (R := R) B F N hA hf hke
  refine codeAny_call_function hroom (X _ _ ho) rfl hco hgen rfl (codeRec_of X hcd) (hbind _ _ _ _ ?_)
  refine wpAny_newFunctionEnv_cells hk (kindsX hkind _) fun env' he s' x => ?_
  subst he
  refine ⟨(T.nolimit.keeps F.keep).keeps x.toInCall.keep, codeAny_func ?_⟩
  obtain ⟨h₁, tk, rfl, _⟩ := x.done
  have hk₁ := x.toInCall.keep
  obtain ⟨cells, NC, Y⟩ := Cl.news (h₀ := s.heap) (Nat.le_refl _) fun n c hm => ⟨x.cell n c (lookup_of_mem_nodup (cellsFrom_names scope.names 0 (s.heap.objs.size + 1) [] [] rfl ▸ hnd) hm), x.above n c hm⟩
  refine h _ s.heap.objs.size h₁ tk cells FG ⟨x.toInCall.ns, fun b o e => hk₁ b o (of_hideAll _ e), Nat.le_of_eq (hideAll_size _ _)⟩ (fun p hp => ?_) Y BG (X₀.keeps st) (T.keeps st) (fun p hp => Heap.lt_size (N p hp).1) ⟨fun b o e hn => hideAll_get _ e hn, fun b o e => of_hideAll _ e⟩
  rcases List.mem_append.mp hp with hp | hp
  · refine ⟨(NC p hp).1, (NC p hp).2.1, ?_⟩
    cases q : (hideAll s.heap (n0.map (·.1))).get? p.1 with
    | none => rfl
    | some o => have := of_hideAll _ q; rw [(NC p hp).2.2] at this; cases this
  · exact ⟨hk₁ _ _ (N p hp).1, Nat.ne_of_lt (Heap.lt_size (N p hp).1), hideAll_none _ (List.mem_map_of_mem hp)⟩
theorem ground_more {h : Heap} (N : News h₀ L h all) (N0 : News h₀ L h n0) (hg : Ground h n0 g) (kept : ∀ q ∈ n0, h'.get? q.1 = some q.2) (kg : ∀ b o, g.get? b = some o → h'.get? b = some o) : ∀ q ∈ all, h'.get? q.1 = some q.2 := fun q hq => by
  by_cases hm : q.1 ∈ n0.map (·.1)
  · obtain ⟨q', hq', e⟩ := List.mem_map.mp hm
    have h1 := (N q hq).1
    have h2 := (N0 q' hq').1
    rw [e, h1] at h2
    have := kept q' hq'
    rw [e] at this
    rw [this]
    exact h2.symm
  · exact kg _ _ (hg.1 _ _ (N q hq).1 hm)
/-- back in the caller's frame: what stood stands, what was made may be handed on -/
theorem back_plain {h : Heap} (F : Fr h₀ L h m) (N : News h₀ L h all) (N0 : News h₀ L h n0) (FG : Fr h₀ L g m) (hg : Ground h n0 g) (F' : Fr g L' h' m') (N' : News g L' h' new') (hs : ∀ q ∈ n0, q ∈ new') : Fr h₀ L h' m ∧ News h₀ L h' (new' ++ all) := by
  obtain ⟨oL, es, ep, hLg, hLd, hLk, hLf⟩ := FG.ns
  refine ⟨⟨⟨oL, es, ep, F'.keep _ _ hLg, hLd, hLk, hLf⟩, fun b o e => F'.keep _ _ (FG.keep b o e), FG.above⟩, fun q hq => ?_⟩
  rcases List.mem_append.mp hq with hq | hq
  · have z := N' q hq
    refine ⟨z.1, fun y => ?_, kts_none FG.keep z.2.2⟩
    have := z.2.2; rw [y, hLg] at this; cases this
  · exact ⟨ground_more N N0 hg (fun q hq => (N' q (hs q hq)).1) F'.keep q hq, (N q hq).2⟩
theorem off_more {h : Heap} {D : Addr} {o : Obj} (N : News h₀ L h all) (hg : Ground h n0 g) (N' : News g L' h' new') (hD : (D, o) ∈ new') (off : ∀ q ∈ n0, q.1 ≠ D) : LCg.Off1 D all := by
  have hd := (N' _ hD).2.2
  dsimp only at hd
  have one : ∀ q ∈ all, q.1 ≠ D := fun q hq z => by
    by_cases hm : q.1 ∈ n0.map (·.1)
    · obtain ⟨q', hq', e⟩ := List.mem_map.mp hm
      exact off q' hq' (e.trans z)
    · have := hg.1 _ _ (N q hq).1 hm
      rw [z, hd] at this; cases this
  clear hg N N'
  induction all with
  | nil => trivial
  | cons a r ih => exact ⟨one a (.head _), ih fun q hq => one q (.tail _ hq)⟩
/-- an exception that left the callee, told of the whole ledger -/
theorem raised_more {h : Heap} {e C : Addr} (F : Fr h₀ L h m) (B : Below A₀ base outer h₀) (N : News h₀ L h all) (N0 : News h₀ L h n0) (hf : env.frame = some L) (hg : Ground h n0 g) (R : Raised base g (env :: outer) e C n0 h') :
    ∃ g₁, Fr h₀ L g₁ m ∧ Raised base g₁ (env :: outer) e C all h' := by
  obtain ⟨⟨Bb, a0, hB, hBG, hl, hfl⟩, hsm⟩ := R
  have nm : ∀ b o, h₀.get? b = some o → b ∉ all.map (·.1) := fun b o e q => by
    obtain ⟨p, hp, rfl⟩ := List.mem_map.mp q
    rw [(N p hp).2.2] at e; cases e
  have nL : L ∉ all.map (·.1) := fun q => by
    obtain ⟨p, hp, e⟩ := List.mem_map.mp q
    exact (N p hp).2.1 e
  have nL0 : L ∉ n0.map (·.1) := fun q => by
    obtain ⟨p, hp, e⟩ := List.mem_map.mp q
    exact (N0 p hp).2.1 e
  -- the ground for the whole ledger: what stands in h, the ledgers apart
  let g₁ := hideAll h (all.map (·.1) ++ n0.map (·.1))
  have g1g : ∀ b o, g₁.get? b = some o → g.get? b = some o := fun b o e => by
    refine hg.1 b o (of_hideAll _ e) fun hm => ?_
    have z := hideAll_none (h := h) (all.map (·.1) ++ n0.map (·.1)) (b := b) (List.mem_append_right _ hm)
    rw [e] at z; cases z
  obtain ⟨oL, es, ep, hLh, hLd, hLk, hLf⟩ := F.ns
  have hL1 : g₁.get? L = some oL := hideAll_get _ hLh fun q => (List.mem_append.mp q).elim nL nL0
  have nm0 : ∀ b o, h₀.get? b = some o → b ∉ n0.map (·.1) := fun b o e q => by
    obtain ⟨p, hp, rfl⟩ := List.mem_map.mp q
    rw [(N0 p hp).2.2] at e; cases e
  refine ⟨g₁, ⟨⟨oL, es, ep, hL1, hLd, hLk, hLf⟩, fun b o e => hideAll_get _ (F.keep b o e) fun q => (List.mem_append.mp q).elim (nm b o e) (nm0 b o e), F.above⟩,
    ⟨⟨Bb, a0, hB, fun b o e hn => hBG b o (g1g b o e) hn, fun q hq => ⟨?_, hideAll_none _ (List.mem_append_left _ (List.mem_map_of_mem hq)), fresh_of_stays B.stays (N q hq).2.2⟩, hfl⟩, fun b o e hn => hsm b o (g1g b o e) hn⟩⟩
  by_cases hm : q.1 ∈ n0.map (·.1)
  · obtain ⟨q', hq', e⟩ := List.mem_map.mp hm
    have h1 := (N q hq).1
    have h2 := (N0 q' hq').1
    rw [e, h1] at h2
    have := (hl q' hq').1
    rw [e] at this
    rw [this]
    exact h2.symm
  · refine hBG _ _ (hg.1 _ _ (N q hq).1 hm) fun hm' => ?_
    rcases fs_mem hf hm' with z | z
    · exact (N q hq).2.1 z
    · obtain ⟨_, o, ho, _⟩ := B.frames.mem z
      rw [(N q hq).2.2] at ho; cases ho
end
-- part Ln
theorem allLt_ne {d : Addr} {l : List (Addr × Obj)} (h : AllLt d l) : ∀ p ∈ l, p.1 ≠ d := by
  induction l with
  | nil => intro p hp; cases hp
  | cons a r ih =>
    intro p hp
    rcases List.mem_cons.mp hp with e | hp
    · rw [e]; exact Nat.ne_of_lt h.1
    · exact ih h.2 p hp
theorem off1_ne {d : Addr} {l : List (Addr × Obj)} (h : LCg.Off1 d l) : ∀ p ∈ l, p.1 ≠ d := by
  induction l with
  | nil => intro p hp; cases hp
  | cons a r ih =>
    intro p hp
    rcases List.mem_cons.mp hp with e | hp
    · rw [e]; exact h.1
    · exact ih h.2 p hp
theorem allLt_ne1 {d : Addr} {l : List (Addr × Obj)} {P : Prop} (h : P ∧ AllLt d l) : ∀ p ∈ l, p.1 ≠ d := allLt_ne h.2
theorem allLt_ne2 {d : Addr} {l : List (Addr × Obj)} {P R : Prop} (h : P ∧ R ∧ AllLt d l) : ∀ p ∈ l, p.1 ≠ d := allLt_ne h.2.2
theorem allLt_ne3 {d : Addr} {l : List (Addr × Obj)} {P R S : Prop} (h : P ∧ R ∧ S ∧ AllLt d l) : ∀ p ∈ l, p.1 ≠ d := allLt_ne h.2.2.2
theorem off1_ne1 {d : Addr} {l : List (Addr × Obj)} {P : Prop} (h : P ∧ LCg.Off1 d l) : ∀ p ∈ l, p.1 ≠ d := off1_ne h.2
theorem off1_ne2 {d : Addr} {l : List (Addr × Obj)} {P R : Prop} (h : P ∧ R ∧ LCg.Off1 d l) : ∀ p ∈ l, p.1 ≠ d := off1_ne h.2.2
theorem off1_ne3 {d : Addr} {l : List (Addr × Obj)} {P R S : Prop} (h : P ∧ R ∧ S ∧ LCg.Off1 d l) : ∀ p ∈ l, p.1 ≠ d := off1_ne h.2.2.2
theorem wd5 : True := by
  (k_with "my_off" => with_reducible first
      | exact allLt_ne (by assumption) | exact off1_ne (by assumption) | exact allLt_ne1 (by assumption) | exact off1_ne1 (by assumption)
      | exact allLt_ne2 (by assumption) | exact off1_ne2 (by assumption) | exact allLt_ne3 (by assumption) | exact off1_ne3 (by assumption))
  (k_with "mine k_all" => (k_extra "my_off"))
  trivial
theorem meta_exc : typeOf (.type "Exception") = pure (.type "type") := by kernel_rfl
theorem wd6 : True := by
  (k_with "call ref" => (k_here; (first | (with_reducible show wpAny _ _ (call (Value.ref 62) _) _ _ _) | (with_reducible show wpAny _ _ (call (Value.ref 74) _) _ _ _)); k_dflt (refine' exc_callK (bm0 := [.type "Exception", .type "BaseException", .type "object"]) (newId := "Exception.__new__") (Tb := 49) (fI := 39) ?k1w10x ?k2w10x ?k3w10x ?k4w10x PySem.F.excBase_Exception ?k5w10x ?k6w10x ?k7w10x ?_ ?k8w10x; (case k1w10x => k_asm); (case k2w10x => k_asm); (case k3w10x => k_asm); (case k4w10x => kernel_rfl); (case k5w10x => decide); (case k6w10x => decide); (case k7w10x => decide); (case k8w10x => size_fits); k_whole); intro h'w e'w t'w F'w N'w o1'w o2'w o3'w; (try simp only [LCg.Off1, and_true] at o1'w o2'w); (try k_sweep)))
  (k_with "getMethod type:Exception" => (k_here; refine' method_type ?Fw11x ?Xw11x ?mw11x (by decide +kernel) ?ew11x ?hw11x ?_; (case Fw11x => k_asm); (case Xw11x => k_asm); (case mw11x => exact meta_exc); (case ew11x => k_dflt k_is); (case hw11x => k_handed)))
  (k_with "call builtin:Exception.__init__" => (k_here; k_dflt (refine' exc_init (bm0 := [.type "Exception", .type "BaseException", .type "object"]) (newId := "Exception.__new__") (Tb := 49) (fI := 39) PySem.F.excBase_Exception ?k1w12x ?k2w12x ?k3w12x ?kUw12x ?k4w12x ?k5w12x ?_ ?k6w12x; (case k1w12x => k_asm); (case k2w12x => k_asm); (case k3w12x => k_asm); (case kUw12x => k_updF); (case k4w12x => kernel_rfl); (case k5w12x => decide); (case k6w12x => size_fits); k_whole); intro h'w t'w F'w N'w; (try dsimp only at N'w); (try k_sweep)))
  (k_with "setAttr ref" => (k_here; k_dflt (first
      | (refine' exc_set1 ?k1w13x ?k2w13x ?k3w13x ?kUw13x ?k4w13x ?k5w13x ?k6w13x ?_; (case k1w13x => k_asm); (case k2w13x => k_asm); (case k3w13x => k_asm); (case kUw13x => k_updF); (case k4w13x => kernel_rfl); (case k5w13x => k_is); (case k6w13x => k_is); k_whole; intro d'w h'w o'w hs'w tk'w F'w N'w e'w o1'w; subst e'w; (try dsimp only at N'w); (try simp only [LCg.Off1, and_true] at o1'w); (try k_sweep))
      | (refine' exc_set2 ?k1w13x ?k2w13x ?k3w13x ?kmw13x ?kUw13x ?k4w13x ?k5w13x ?k6w13x ?krw13x ?kzw13x ?_; (case k1w13x => k_asm); (case k2w13x => k_asm); (case k3w13x => k_asm); (case kmw13x => k_mem); (case kUw13x => k_updF); (case k4w13x => kernel_rfl); (case k5w13x => k_is); (case k6w13x => k_is); (case krw13x => rfl); (case kzw13x => exact Nat.le_of_ble_eq_true rfl); k_whole; intro h'w o'w F'w N'w; (try dsimp only at N'w); (try k_sweep)))))
  (k_with "exec Raise some none" => (k_here; k_dflt (first
      | (refine' raise_own (C := 74) (Tb := 49) (fI := 39) (bm0 := [.type "Exception", .type "BaseException", .type "object"]) (newId := "Exception.__new__") ?kXw14x ?hhw14x ?_; (case kXw14x => k_asm); (case hhw14x => rfl); (with_reducible show wpAny _ _ (eval (Expr.Call (Expr.Name (Str.ofString "MachineError") _) _ _ _) _) _ _ _))
      | (refine' raise_own (C := 62) (Tb := 49) (fI := 39) (bm0 := [.type "Exception", .type "BaseException", .type "object"]) (newId := "Exception.__new__") ?kXw14x ?hhw14x ?_; (case kXw14x => k_asm); (case hhw14x => rfl); (with_reducible show wpAny _ _ (eval (Expr.Call (Expr.Name (Str.ofString "ActionError") _) _ _ _) _) _ _ _)))))
  (k_with "RaiseEnd" => (k_here; k_dflt (refine' ⟨_, _, _, rfl, ?k1w15x, ?k2w15x, ?k3w15x, ?k4w15x, ?_⟩; (case k1w15x => exact Frag.In.keeps (by k_asm) (Fr.keep (by k_asm))); (case k2w15x => kernel_rfl); (case k3w15x => decide); (case k4w15x => exact (News.get (by k_asm) (by k_mem)))); walk_say "RAISED"))
  trivial
/-- a call of the def at f with the arguments vs, out of any def's frame. Gd: what stood stands (what the call makes is dropped); Rs e C: an exception of the class C flies, and what stood stands up to the frames' slots -/
abbrev Call (n9 : Nat) (w : World) (f : Addr) (vs : List Value) (news : List (Addr × Obj)) (P : (Value → Shared → Prop) → (Value → Shared → Prop) → (List (Addr × Obj) → Heap → Prop) → (Addr → Addr → Heap → Prop) → (List (Addr × Obj) → Heap → Prop) → Shared → Prop) : Prop :=
  ∀ (p : Program) (loose : List Str) (mean : ExcName → Option Value) (mg mb : Str → Option Value) (dp un : Nat) (gd : Option (List Code)) (cn : Str) (cnm : List (Str × NameKind)) (cg cc : Bool) (cmo : List (Str × Const)) (a : Addr) (ccd : Value) (cl : List (Str × Addr)) (outer : List Env) (A₀ : Around) (base h₀ : Heap) (L : Addr) (m : Str → Option Value) (s : Shared) (Q E : Value → Shared → Prop),
    Below A₀ base outer h₀ → Fr h₀ L s.heap m → (hd.heap_39 w.params).In h₀ → News h₀ L s.heap news → Top p loose mean mg mb h₀ → (hd.heap_39 w.params).In base → Top p loose mean mg mb base →
    dp + n9 < recursionLimit → un + 10 * n9 < cLine →
    P Q E (fun nw h' => Fr h₀ L h' m ∧ News h₀ L h' nw) (fun e C h' => ∃ g, Fr h₀ L g m ∧ Raised base g (envX cn { kind := .function, names := cnm, isGenerator := cg, isCoroutine := cc, more := cmo } L a ccd cl :: outer) e C news h') (fun nw h' => ∃ h₁, KtsTurn (fsOf outer) h₀ h₁ ∧ Fr h₁ L h' m ∧ News h₁ L h' nw ∧ Below A₀ base outer h₁ ∧ (hd.heap_39 w.params).In h₁ ∧ Top p loose mean mg mb h₁) s →
      wpAny (model pr w) (ktrTop dp un gd cn { kind := .function, names := cnm, isGenerator := cg, isCoroutine := cc, more := cmo } L a ccd cl outer) (call (.ref f) vs) Q E s
abbrev tupO (vs : List Value) : Obj := { cls := .type "tuple", data := .seq vs.toArray }
theorem wd7 : True := by
  (k_with "my_room" => ((try simp only [depth_under_make, depth_under_kw, depth_in1, depth_deeper, depth_caller, Nat.add_assoc]); first | assumption | exact room_le (by assumption) (by decide) | decide))
  (k_with "my_units" => ((try simp only [units_in1, units_deeper, Around.mark_units, units_caller, Nat.add_assoc]); first | assumption | exact units_lt (by assumption) (by decide) | decide))
  (k_with "my_tail" => first | assumption | (refine List.Mem.tail _ ?_; (k_extra "my_tail")))
  (k_with "my_sub" => first
      | (intro p9w hp9w; exact ⟨by (k_extra "my_tail"), by first | (revert p9w; (k_extra "my_off")) | (exact (by (k_extra "my_off") : ∀ p ∈ _, p.1 ≠ _) p9w hp9w)⟩)
      | exact List.forall_mem_nil _
      | (refine List.forall_mem_cons.mpr ⟨⟨by k_mem, by k_ne⟩, ?_⟩; (k_extra "my_sub")))
  (k_with "my_keep" => first
      | assumption
      | (intro p9w hp9w; (k_extra "my_tail"))
      | exact List.forall_mem_nil _
      | (refine List.forall_mem_cons.mpr ⟨by k_mem, ?_⟩; (k_extra "my_keep")))
  (k_with "my_N" => first | k_asm | (refine' cb_drop ?a9w21x ?b9w21x; (case a9w21x => assumption); (case b9w21x => (k_extra "my_keep"))))
  trivial
theorem off1_at {d a : Addr} {o : Obj} {l : List (Addr × Obj)} (h : LCg.Off1 d l) (hm : (a, o) ∈ l) : a ≠ d := off1_ne h _ hm
theorem wd8 : True := by
  (k_with "mine k_ne" => (refine neN ?_; (try dsimp only); first | exact off1_at (by assumption) (by k_mem) | exact Ne.symm (off1_at (by assumption) (by k_mem)) | omega))
  trivial
section
variable {h₀ h' : Heap} {L I C D : Addr} {m : Str → Option Value} {s₁ : Shared} {oI oC oD : Obj} {S : List (Addr × Obj) → Prop} {rest : Value → List (Addr × Obj) → Prop} {y : Value} {tk : Nat} {news : List (Addr × Obj)} {x : Addr} {o : Obj}
theorem compEnd1 (F : Fr h₀ L h' m) (N : News h₀ L h' ((x, o) :: (I, oI) :: (C, oC) :: (D, oD) :: news)) (off : LCg.Off3 I C D news) (a : x ≠ I) (b : x ≠ C) (c : x ≠ D) (hS : S ((x, o) :: news)) (r : rest y ((x, o) :: news)) :
    LCg.CompEnd h₀ L m s₁ I oI C oC D oD S rest y { s₁ with heap := h', toks := tk } :=
  LCg.CompEnd.intro F N ((x, o) :: news) (fun p hp => by
    rcases List.mem_cons.mp hp with rfl | hp
    · exact .tail _ (.head _)
    rcases List.mem_cons.mp hp with rfl | hp
    · exact .tail _ (.tail _ (.head _))
    rcases List.mem_cons.mp hp with rfl | hp
    · exact .tail _ (.tail _ (.tail _ (.head _)))
    rcases List.mem_cons.mp hp with rfl | hp
    · exact .head _
    · exact .tail _ (.tail _ (.tail _ (.tail _ hp)))) ⟨⟨a, b, c⟩, off⟩ hS r
theorem compEnd0 (F : Fr h₀ L h' m) (N : News h₀ L h' ((I, oI) :: (C, oC) :: (D, oD) :: news)) (off : LCg.Off3 I C D news) (hS : S news) (r : rest y news) :
    LCg.CompEnd h₀ L m s₁ I oI C oC D oD S rest y { s₁ with heap := h', toks := tk } := LCg.CompEnd.intro F N news (fun p hp => hp) off hS r
end
theorem wd9 : True := by
  (k_with "CompRest" => (with_unfolding_all first
      | (refine LCg.CompRest.succ ?_; intro v'w I'w oI'w C'w oC'w D'w m'w h'w tk'w E'w hv'w hC'w hx'w F'w N'w off'w ne'w; (first | lcg_open hv'w | (obtain ⟨t9'w, hv9'w⟩ := hv'w; subst hv9'w)))
      | refine LCg.CompRest.zero ?_))
  (k_with "CompEnd" => (k_dflt (first
      | (refine' compEnd1 ?k1w24x ?k2w24x ?k3w24x ?kaw24x ?kbw24x ?kcw24x ?k4w24x ?_; (case k1w24x => k_asm); (case k2w24x => k_asm); (case k3w24x => assumption); (case kaw24x => k_ne); (case kbw24x => k_ne); (case kcw24x => k_ne); (case k4w24x => lcg_src))
      | (refine' compEnd0 ?k1w24x ?k2w24x ?k3w24x ?k4w24x ?_; (case k1w24x => k_asm); (case k2w24x => k_asm); (case k3w24x => assumption); (case k4w24x => lcg_src)))))
  (k_with "FinE" => ((unfold LCg.FinE); intro D'w h'w tk'w F'w N'w o1'w; (try simp only [List.nil_append, List.cons_append] at N'w); (try dsimp only)))
  (k_with "FinA" => ((unfold LCg.FinA); intro D'w h'w tk'w F'w N'w o1'w; (try simp only [List.nil_append, List.cons_append] at N'w); (try dsimp only)))
  (k_with "subscriptTail" => (k_here; (rename IntsAre _ (List.map _ (rangeKs _ _)) => hI9w); k_dflt (first
      | (obtain ⟨t91, t92, t93, e9w⟩ := ints3 (a := -1) (b := -1) (c := -1) hI9w; subst e9w)
      | (obtain ⟨t91, t92, t93, t94, e9w⟩ := ints4 (a := -1) (b := -1) (c := -1) (d := -1) hI9w; subst e9w)); walk_say "OPENED2"))
  trivial
-- part Ln2
theorem fillLn2 : (∀ P, hd.heap_39 P = hd.heap_39 P) ∧ (PySem.Challenge.rw_qd0067_01 = PySem.Challenge.rw_qd0067_01) := by
  k_fill
  exact ⟨fun _ => rfl, rfl⟩
theorem pick_of {a b x : Nat} {r : Prop} (h : x < b ∧ r) (k : x < b ∧ r → a < b) : a < b := k h
theorem pick_hd {p q : Prop} : p ∧ q → p := And.left
theorem pick_tl {p q r : Prop} (h : q → r) : p ∧ q → r := fun x => h x.2
theorem ne_lt {a b : Nat} (h : a < b) : a ≠ b := Nat.ne_of_lt h
theorem ne_gt {a b : Nat} (h : b < a) : a ≠ b := Nat.ne_of_gt h
theorem wd10 : True := by
  (k_with "my_pick" => first | exact pick_hd | exact id | (refine pick_tl ?_; (k_extra "my_pick")))
  (k_with "my_lt" => with_reducible first | assumption | (refine pick_of (by assumption) ?_; (k_extra "my_pick")))
  trivial
theorem pick_ne {a b x : Nat} {r : Prop} (h : x ≠ b ∧ r) (k : x ≠ b ∧ r → a ≠ b) : a ≠ b := k h
theorem pick_ne2 {a b x : Nat} {r : Prop} (h : x ≠ b ∧ r) (k : x ≠ b ∧ r → a ≠ b) : b ≠ a := (k h).symm
theorem wd11 : True := by
  (k_with "mine k_ne" => (refine neN ?_; (try dsimp only); first | exact off1_at (by assumption) (by k_mem) | exact Ne.symm (off1_at (by assumption) (by k_mem)) | (with_reducible refine ne_lt ?_; (k_extra "my_lt")) | (with_reducible refine ne_gt ?_; (k_extra "my_lt")) | with_reducible assumption | (with_reducible refine Ne.symm ?_; with_reducible assumption) | with_reducible (refine pick_ne (by assumption) ?_; (k_extra "my_pick")) | with_reducible (refine pick_ne2 (by assumption) ?_; (k_extra "my_pick")) | omega))
  trivial
theorem my_item {prog : Program} {w : World} {A : Around} {E : Value → Shared → Prop} {s : Shared} {h₀ : Heap} {L l : Addr} {news : List (Addr × Obj)} {vs : List Value} {n : Nat} {value slice : PySem.Expr} {k : Int} {u : Tok} {v : Value} {Q : Value → Shared → Prop} (N : News h₀ L s.heap news) (hm : (l, PySem.W.listOf vs.toArray n) ∈ news)
    (h0 : 0 ≤ k) (hhi : k < 2 ^ 63) (hx : vs[k.toNat]? = some v) (h : Q v s)
    (hs : subscripted slice false (.ref l) (.int k u) = operate [.ref l, .int k u] (getItem (.ref l) (.int k u)) := by with_unfolding_all rfl) :
    wpAny (model prog w) A (subscriptTail value slice (.ref l) (.int k u)) Q E s :=
  have hl : s.heap.IsList l vs.toArray := PySem.IsL.isList (n := n) (N _ hm).1
  tail_any hl.typeIs slot_list_getitem.lookup (wpAny_getItem_list hl h0 hhi (by simpa using hx) h) hs
theorem wd12 : True := by
  (k_with "my_sub1" => (k_here; (with_reducible show wpAny _ _ (subscriptTail _ _ (Value.ref _) (Value.int _ _)) _ _ _); k_dflt (first
      | (refine' my_item ?Nw31x ?mw31x ?aw31x ?bw31x ?xw31x ?_ ?hsw31x; (case Nw31x => k_asm); (case mw31x => k_mem); (case aw31x => decide); (case bw31x => decide); (case xw31x => rfl); (case hsw31x => with_unfolding_all rfl); walk_say "MY ITEM")
      | (refine' item_tupleT ?tw31x ?aw31x ?bw31x ?cw31x ?dw31x ?_ ?hsw31x; (case tw31x => exact News.isTup (by k_asm) (by k_mem)); (case aw31x => decide); (case bw31x => decide); (case cw31x => rfl); (case dw31x => rfl); (case hsw31x => with_unfolding_all rfl); walk_say "MY TUPLE"))))
  (k_with "subscriptTail Name Name ref int" => (k_extra "my_sub1"))
  (k_with "subscriptTail Name Constant ref int" => (k_extra "my_sub1"))
  (k_with "subscriptTail Subscript Constant ref int" => (k_extra "my_sub1"))
  trivial
theorem my_K0 {prog : Program} {w : World} {A : Around} {E : Value → Shared → Prop} {s : Shared} {K : Frag} {g : Addr} {self : Value} {pos : Pos} {env : Env} {Q : Value → Shared → Prop} (X : K.In s.heap) (hk : keepIn K (.ref g) = true) (h : wpAny (model prog w) A (call (.ref g) [self]) Q E s) :
    wpAny (model prog w) A (callWith pos (Value.ref g, [self]).1 (Value.ref g, [self]).2 (backTo pos (starEach [] env)) []) Q E s := callWith_K0 X hk h
theorem my_K1 {prog : Program} {w : World} {A : Around} {E : Value → Shared → Prop} {s : Shared} {K : Frag} {h₀ : Heap} {g : Addr} {self : Value} {pos : Pos} {env : Env} {e : PySem.Expr} {rest : List PySem.Expr} {Q : Value → Shared → Prop} (X : K.In h₀) (hk : keepIn K (.ref g) = true)
    (h : wpAny (model prog w) A (spliced (backTo pos (starEach (e :: rest) env))) (fun vs s₁ => K.In s₁.heap ∧ wpAny (model prog w) A (call (.ref g) ([self] ++ vs)) Q E s₁) E s)
    (he : starEach (e :: rest) env = (false, eval e env) :: starEach rest env := by rfl) (hplain : (backTo pos (starEach rest env)).any (·.1) = false := by rfl) :
    wpAny (model prog w) A (callWith pos (Value.ref g, [self]).1 (Value.ref g, [self]).2 (backTo pos (starEach (e :: rest) env)) []) Q E s := callWith_K X hk h he hplain
theorem my_m0 {prog : Program} {w : World} {A : Around} {E : Value → Shared → Prop} {s : Shared} {id : String} {self : Value} {pos : Pos} {env : Env} {Q : Value → Shared → Prop} (h : wpAny (model prog w) A (call (.builtin id) [self]) Q E s) :
    wpAny (model prog w) A (callWith pos (Value.builtin id, [self]).1 (Value.builtin id, [self]).2 (backTo pos (starEach [] env)) []) Q E s := callWith_method0 h
theorem my_m1 {prog : Program} {w : World} {A : Around} {E : Value → Shared → Prop} {s : Shared} {id : String} {self : Value} {pos : Pos} {env : Env} {e : PySem.Expr} {rest : List PySem.Expr} {Q : Value → Shared → Prop}
    (h : wpAny (model prog w) A (spliced (backTo pos (starEach (e :: rest) env))) (fun vs s₁ => wpAny (model prog w) A (call (.builtin id) ([self] ++ vs)) Q E s₁) E s)
    (he : starEach (e :: rest) env = (false, eval e env) :: starEach rest env := by rfl) (hplain : (backTo pos (starEach rest env)).any (·.1) = false := by rfl) :
    wpAny (model prog w) A (callWith pos (Value.builtin id, [self]).1 (Value.builtin id, [self]).2 (backTo pos (starEach (e :: rest) env)) []) Q E s := callWith_method1 h he hplain
theorem wd13 : True := by
  (k_with "callWith ref nil nil" => (k_here; k_dflt (first
      | (refine' callWith_K (K := hd.heap_39 _) ?k1w35x ?k2w35x ?_; (case k1w35x => k_asm); (case k2w35x => k_is); k_whole)
      | (refine' callWith_K0 (K := hd.heap_39 _) ?k1w35x ?k2w35x ?_; (case k1w35x => k_in); (case k2w35x => k_is); k_whole))))
  (k_with "callWith ref cons nil" => (k_here; k_dflt (first
      | (refine' my_K1 (K := hd.heap_39 _) ?k1w36x ?k2w36x ?_; (case k1w36x => k_asm); (case k2w36x => k_is); k_whole)
      | (refine' my_K0 (K := hd.heap_39 _) ?k1w36x ?k2w36x ?_; (case k1w36x => k_in); (case k2w36x => k_is); k_whole))))
  (k_with "callWith builtin:list.append cons nil" => (k_here; k_dflt (refine' my_m1 ?_; k_whole)))
  (k_with "callWith builtin:list.extend cons nil" => (k_here; k_dflt (refine' my_m1 ?_; k_whole)))
  (k_with "callWith builtin:str.join cons nil" => (k_here; k_dflt (refine' my_m1 ?_; k_whole)))
  (k_with "callWith builtin:list.pop cons nil" => (k_here; k_dflt (refine' my_m0 ?_; k_whole)))
  (k_with "my_nes" => first
      | (k_extra "my_off")
      | exact List.forall_mem_nil _
      | (refine List.forall_mem_cons.mpr ⟨by k_ne, ?_⟩; (k_extra "my_nes")))
  trivial
theorem my_ne_len {prog : Program} {w : World} {A : Around} {E : Value → Shared → Prop} {s : Shared} {h₀ : Heap} {L a b : Addr} {news : List (Addr × Obj)} {vs ws : Array Value} {n k : Nat} {Q : Value → Shared → Prop} (N : News h₀ L s.heap news) (ha : (a, PySem.W.listOf vs n) ∈ news) (hb : (b, PySem.W.listOf ws k) ∈ news)
    (hu : A.units < cLine) (hsz : (vs.size != ws.size) = true) (h : Q (.bool true) s) : wpAny (model prog w) A (compareOp .NotEq (.ref a) (.ref b)) Q E s :=
  SeqAt.RcNeAt.lists_lengths (PySem.IsL.isList (n := n) (N _ ha).1) (PySem.IsL.isList (n := k) (N _ hb).1) hsz hu prog w E Q h
theorem wd14 : True := by
  (k_with "compareOp NotEq ref ref" => (k_here; (with_reducible show wpAny _ _ (compareOp CmpOp.NotEq (Value.ref _) (Value.ref _)) _ _ _); k_dflt (refine' my_ne_len ?k1w42x ?k2w42x ?k3w42x ?k4w42x ?k5w42x ?_; (case k1w42x => k_asm); (case k2w42x => k_mem); (case k3w42x => k_mem); (case k4w42x => (k_extra "my_units")); (case k5w42x => rfl); walk_say "MY NE")))
  (k_with "binaryOp Pow int int" => (k_here; (with_reducible refine pow_int_small ?_ ?_ ?_ ?_) <;> first | decide | omega | skip))
  (k_with "eval Name" => (k_here; k_dflt (first
      | (refine' nameX_L ?Fw44x ?vw44x ?_ ?aw44x ?bw44x; (case aw44x => rfl); (case bw44x => rfl); (case Fw44x => k_asm); (case vw44x => rfl); k_whole)
      | (refine' nameX_K ?Fw44x ?Xw44x ?Tw44x ?ew44x ?_ ?aw44x ?bw44x; (case aw44x => rfl); (case bw44x => rfl); (case Fw44x => k_asm); (case Xw44x => k_asm); (case Tw44x => k_asm); (case ew44x => k_is); k_whole)
      | (refine' nameX_B ?Fw44x ?Xw44x ?Tw44x ?ew44x ?vw44x ?nw44x ?_ ?aw44x ?bw44x; (case aw44x => rfl); (case bw44x => rfl); (case Fw44x => k_asm); (case Xw44x => k_asm); (case Tw44x => k_asm); (case ew44x => k_is); (case vw44x => boot_fast); (case nw44x => decide); k_whole))))
  trivial
-- part Ln3
/-- as Call, with one more premise C of the base heap -/
abbrev CallX (C : Heap → Prop) (n9 : Nat) (w : World) (f : Addr) (vs : List Value) (news : List (Addr × Obj)) (P : (Value → Shared → Prop) → (Value → Shared → Prop) → (List (Addr × Obj) → Heap → Prop) → (Addr → Addr → Heap → Prop) → (List (Addr × Obj) → Heap → Prop) → Shared → Prop) : Prop :=
  ∀ (p : Program) (loose : List Str) (mean : ExcName → Option Value) (mg mb : Str → Option Value) (dp un : Nat) (gd : Option (List Code)) (cn : Str) (cnm : List (Str × NameKind)) (cg cc : Bool) (cmo : List (Str × Const)) (a : Addr) (ccd : Value) (cl : List (Str × Addr)) (outer : List Env) (A₀ : Around) (base h₀ : Heap) (L : Addr) (m : Str → Option Value) (s : Shared) (Q E : Value → Shared → Prop),
    Below A₀ base outer h₀ → Fr h₀ L s.heap m → (hd.heap_39 w.params).In h₀ → News h₀ L s.heap news → Top p loose mean mg mb h₀ → (hd.heap_39 w.params).In base → Top p loose mean mg mb base → C base →
    dp + n9 < recursionLimit → un + 10 * n9 < cLine →
    P Q E (fun nw h' => Fr h₀ L h' m ∧ News h₀ L h' nw) (fun e C h' => ∃ g, Fr h₀ L g m ∧ Raised base g (envX cn { kind := .function, names := cnm, isGenerator := cg, isCoroutine := cc, more := cmo } L a ccd cl :: outer) e C news h') (fun nw h' => ∃ h₁, KtsTurn (fsOf outer) h₀ h₁ ∧ Fr h₁ L h' m ∧ News h₁ L h' nw ∧ Below A₀ base outer h₁ ∧ (hd.heap_39 w.params).In h₁ ∧ Top p loose mean mg mb h₁) s →
      wpAny (model pr w) (ktrTop dp un gd cn { kind := .function, names := cnm, isGenerator := cg, isCoroutine := cc, more := cmo } L a ccd cl outer) (call (.ref f) vs) Q E s
/-- where no frame stands below, a turn is none -/
theorem turn_nil {h₀ h₁ h' : Heap} {L : Addr} {m : Str → Option Value} {nw : List (Addr × Obj)} (T : KtsTurn [] h₀ h₁) (F : Fr h₁ L h' m) (N : News h₁ L h' nw) : Fr h₀ L h' m ∧ News h₀ L h' nw :=
  ⟨⟨F.ns, fun b o e => F.keep b o (T.other b o e (fun q => nomatch q)), T.size ▸ F.above⟩, fun q hq => ⟨(N q hq).1, (N q hq).2.1, kts_none (fun b o e => T.other b o e (fun q => nomatch q)) (N q hq).2.2⟩⟩
-- part P1
theorem pen_start : (0 : Int) ≤ 0 ∧ (0 : Int) < 10 ^ (42 + 4 * ([] : List Int).length) := ⟨Int.le_refl _, by decide⟩
theorem pen_step {n c : Int} {pre : List Int} (h1 : 0 ≤ n) (h2 : n < 10 ^ (42 + 4 * pre.length)) :
    (0 ≤ n * 1009 + (if c < 0 then -c else c).fmod (10 ^ Int.toNat 40) + 7 * 10 ^ Int.toNat 41 * if decide (c < 0) = true then 1 else 0) ∧
    (n * 1009 + (if c < 0 then -c else c).fmod (10 ^ Int.toNat 40) + 7 * 10 ^ Int.toNat 41 * if decide (c < 0) = true then 1 else 0) < 10 ^ (42 + 4 * (pre ++ [c]).length) := by
  have h : 0 ≤ n ∧ n < 10 ^ (42 + 4 * pre.length) := ⟨h1, h2⟩
  clear h1 h2
  have e40 : (10 ^ Int.toNat 40 : Int) = 10 ^ 40 := rfl
  have e41 : (10 ^ Int.toNat 41 : Int) = 10 ^ 41 := rfl
  rw [e40, e41, show 42 + 4 * (pre ++ [c]).length = (42 + 4 * pre.length) + 4 by rw [List.length_append]; simp; omega, Int.pow_add]
  have hP : (10 ^ 42 : Int) ≤ 10 ^ (42 + 4 * pre.length) := by
    rw [Int.pow_add]
    have h1 : (1 : Int) ≤ 10 ^ (4 * pre.length) := Int.le_of_lt_add_one (by have := Int.pow_pos (n := 10) (m := 4 * pre.length) (by decide); omega)
    omega
  generalize (10 ^ (42 + 4 * pre.length) : Int) = P at h hP
  have a1 := Int.fmod_nonneg_of_pos (if c < 0 then -c else c) (by decide : (0 : Int) < 10 ^ 40)
  have a2 := Int.fmod_lt_of_pos (if c < 0 then -c else c) (by decide : (0 : Int) < 10 ^ 40)
  generalize (if c < 0 then -c else c).fmod (10 ^ 40) = r at a1 a2
  split <;> omega
theorem pen_end {n : Int} {ns : List Int} (h1 : 0 ≤ n) (h2 : n < 10 ^ (42 + 4 * (List.take 30 ns).length)) : 0 ≤ n ∧ n < 10 ^ 300 ∧ ((List.take 30 ns).length : Int) ≤ 30 := by
  have hl : (List.take 30 ns).length ≤ 30 := by rw [List.length_take]; omega
  refine ⟨h1, Int.lt_of_lt_of_le h2 ?_, by omega⟩
  exact_mod_cast Nat.pow_le_pow_right (n := 10) (by decide) (show 42 + 4 * (List.take 30 ns).length ≤ 300 by omega)
theorem off1_of_lt9 {d : Addr} {l : List (Addr × Obj)} (h : AllLt d l) : LCg.Off1 d l := by
  induction l with
  | nil => trivial
  | cons a r ih => exact ⟨Nat.ne_of_lt h.1, ih h.2⟩
section
variable {w : World} {all : List (Addr × Obj)} {l : Addr} {vs : List Value} {ns : List Int}
theorem pen_c (hi : IntsAre vs ns) (hlen : ns.length ≤ 63) :
    CallX (fun b => b.IsList l vs.toArray) 20 w 502 [.ref l] all (fun Q E G R U s => ∀ D a b ta tb k h' tk', 0 ≤ a → a < 10 ^ 300 → 0 ≤ b → b ≤ 30 →
      G ((D, PySem.W.listOf #[.int a ta, .int b tb] k) :: all) h' → LCg.Off1 D all → Q (.ref D) { s with heap := h', toks := tk' }) := by
  intro p loose mean mg mb dp un gd cn cnm cg cc cmo a9 ccd cl outer A₀ base h₀ L m₀ s Q E B F X N T XB TB hl hdp hu hret
  skip
  refine wpAny_call ?_
  k_dflt k_enter
  k_with "pyIter ref" => k_state (fun pre number => 0 ≤ number ∧ number < 10 ^ (42 + 4 * pre.length)) "number"
  k_with "state" => first | exact pen_start | exact pen_step (by assumption) (by assumption)
  (k_extra "t_steps3")
  have hw9 := pen_end (n := _) (ns := ns) (by assumption) (by assumption)
  exact hret _ _ _ _ _ _ _ _ hw9.1 hw9.2.1 (Int.natCast_nonneg _) hw9.2.2 ⟨by k_asm, by (k_extra "my_N")⟩ (off1_of_lt9 (‹_ ∧ _ ∧ AllLt _ _›).2.2)
end
-- part V0
/-- at each statement what the goal bears is named: the frame's map, the state, what is to be shown behind -/
theorem nz_all {prog : Program} {w : World} {A : Around} {E : Value → Shared → Prop} {s : Shared} {h₀ h : Heap} {L : Addr} {m : Str → Option Value} {nw : List (Addr × Obj)} {st : Stmt} {rest : List Stmt} {env : Env} {Q : Flow → Shared → Prop} {g : Array GenState} {d : Drawn} {t : Nat} {o : OsState} (F : Fr h₀ L h m) (N : News h₀ L h nw) (e : s = ⟨h, g, d, t, o⟩)
    (k : ∀ t9, let m' := m; let s' : Shared := ⟨h, g, d, t9, o⟩; let q' := Q; let e' := E; Fr h₀ L s'.heap m' → News h₀ L s'.heap nw → wpAny (model prog w) A (execs (st :: rest) env) q' e' s') : wpAny (model prog w) A (execs (st :: rest) env) Q E s := e ▸ k t F N
theorem wd15 : True := by
  (k_with "execs cons" => (k_here; (with_reducible rename Fr _ _ _ _ => fz9w); (with_reducible rename News _ _ _ _ => nz9w); with_reducible refine' nz_all fz9w nz9w ?e9w45x ?_; (case e9w45x => k_dflt (first | (dsimp only; done) | exact rfl)); intro t9w m9w s9w qk ek F9w N9w; clear fz9w nz9w; refine wpAny_execs_cons ?_; walk_say "NZ"))
  (k_with "b_eq" => first
      | exact BindsTo.of_eq (show _ = pure [] from rfl)
      | exact BindsTo.of_eq (show _ = pure [(Str.ofString _, _)] from rfl)
      | exact BindsTo.of_eq (show _ = pure [(Str.ofString _, _), (Str.ofString _, _)] from rfl)
      | exact BindsTo.of_eq (show _ = pure [(Str.ofString _, _), (Str.ofString _, _), (Str.ofString _, _)] from rfl)
      | exact BindsTo.of_eq (show _ = pure [(Str.ofString _, _), (Str.ofString _, _), (Str.ofString _, _), (Str.ofString _, _)] from rfl)
      | exact BindsTo.of_eq (show _ = pure [(Str.ofString _, _), (Str.ofString _, _), (Str.ofString _, _), (Str.ofString _, _), (Str.ofString _, _)] from rfl)
      | exact BindsTo.of_eq (show _ = pure [(Str.ofString _, _), (Str.ofString _, _), (Str.ofString _, _), (Str.ofString _, _), (Str.ofString _, _), (Str.ofString _, _)] from rfl)
      | exact BindsTo.of_eq rfl | exact binds_K (by k_in) rfl (by k_is) rfl rfl rfl | fail "b_eq: no rule for these arguments")
  (k_with "mine k_enter" => (refine' code_def ?k1w47x ?k2w47x ?k3w47x ?k4w47x ?k5w47x ?kAw47x ?kFw47x ?kKw47x ?k6w47x ?k7w47x ?k8w47x ?k9w47x ?kBw47x ?_ ?c2w47x ?c3w47x ?c4w47x ?c5w47x; (case kAw47x => exact rfl); (case kFw47x => exact rfl); (case kKw47x => exact rfl); (case k1w47x => k_asm); (case k2w47x => k_asm); (case k3w47x => k_asm); (case k4w47x => k_asm); (case k5w47x => k_asm); (case k6w47x => k_is); (case k7w47x => k_is); (case k8w47x => k_room); (case k9w47x => (k_extra "b_eq")); (case c5w47x => decide); (case kBw47x => exact locs rfl); (case c2w47x => exact rfl); (case c3w47x => exact rfl); (case c4w47x => exact rfl); k_whole; intro g'w L'w h'w FG'w F'w N'w B'w X'w T'w; (try dsimp only); (try k_lift B'w); (try k_fold)))
  trivial
-- part D1
theorem pow_mono9 {x y : Int} (hx : 0 ≤ x) (hxy : x ≤ y) (n : Nat) : x ^ n ≤ y ^ n := by
  induction n with
  | zero => simp
  | succ n ih => rw [Int.pow_succ, Int.pow_succ]; exact Int.mul_le_mul ih hxy hx (Int.pow_nonneg (Int.le_trans hx hxy))
theorem fdiv_nn {a m : Int} (ha : 0 ≤ a) (hm : 0 ≤ m) : 0 ≤ a.fdiv m := by rw [Int.fdiv_eq_ediv_of_nonneg _ hm]; exact Int.ediv_nonneg ha hm
theorem fdiv_le9 {a m : Int} (ha : 0 ≤ a) (hm : 0 ≤ m) : a.fdiv m ≤ a := by rw [Int.fdiv_eq_ediv_of_nonneg _ hm]; exact Int.ediv_le_self _ ha
section
variable {w : World} {all : List (Addr × Obj)} {P : Addr} {k : Nat} {a b m : Int} {ta tb tm : Tok}
theorem draw_c (ha : 0 ≤ a) (ha2 : a < 10 ^ 300) (hb : 0 ≤ b) (hb2 : b ≤ 1000) (hm : 2 ≤ m) (hm2 : m ≤ 5000) (hoff : LCg.Off1 P all) :
    Call 20 w 509 [.ref P, .int m tm] ((P, PySem.W.listOf #[.int a ta, .int b tb] k) :: all) (fun Q E G R U s => ∀ d a' b' td ta' tb' k' h' tk', 0 ≤ d → d < m → 0 ≤ a' → a' < 10 ^ 300 → b ≤ b' → b' ≤ b + 1 →
      G ((P, PySem.W.listOf #[.int a' ta', .int b' tb'] k') :: all) h' → Q (.int d td) { s with heap := h', toks := tk' }) := by
  intro p loose mean mg mb dp un gd cn cnm cg cc cmo a9 ccd cl outer A₀ base h₀ L m₀ s Q E B F X N T XB TB hdp hu hret
  refine wpAny_call ?_
  k_dflt k_enter
  (k_extra "t_steps3")
  · have e9 : ((1753 * (b + 1) + 4127) ^ Int.toNat 11 : Int) = (1753 * (b + 1) + 4127) ^ 11 := rfl
    have h8 : (0 : Int) ≤ (1753 * (b + 1) + 4127) ^ 11 := Int.pow_nonneg (by omega)
    have h9 : ((1753 * (b + 1) + 4127) ^ 11 : Int) < 10 ^ 300 := Int.lt_of_le_of_lt (pow_mono9 (by omega) (by omega : 1753 * (b + 1) + 4127 ≤ 10 ^ 7) 11) (by decide)
    exact hret _ (((1753 * (b + 1) + 4127) ^ 11).fdiv m) (b + 1) _ _ _ _ _ _ (Int.fmod_nonneg_of_pos _ (by omega)) (Int.fmod_lt_of_pos _ (by omega)) (fdiv_nn h8 (by omega)) (Int.lt_of_le_of_lt (fdiv_le9 h8 (by omega)) h9) (by omega) (by omega) ⟨by k_asm, by (k_extra "my_N")⟩
  · exact hret _ (a.fdiv m) b _ _ _ _ _ _ (Int.fmod_nonneg_of_pos _ (by omega)) (Int.fmod_lt_of_pos _ (by omega)) (fdiv_nn ha (by omega)) (Int.lt_of_le_of_lt (fdiv_le9 ha (by omega)) ha2) (by omega) (by omega) ⟨by k_asm, by (k_extra "my_N")⟩
end
-- part Tx
theorem lay_str {x : Str} (h : PyData.strOk x = true) (hl : x.length ≤ 5000) : PyData.layable0 (.str x) = true := by
  have hw : x.cps.size ≤ 2 ^ 20 := Nat.le_trans hl (by decide)
  simp [PyData.layable0, PyData.canLay0, PyData.depth, PyData.weight, h, hw]
theorem ok_foldl {c : Array Nat} (h : c.all (· < 0x110000) = true) : ∀ (k : Nat) (z : Array Nat), z.all (· < 0x110000) = true → ((List.replicate k c).foldl (· ++ ·) z).all (· < 0x110000) = true
  | 0, z, hz => hz
  | k + 1, z, hz => by
    rw [List.replicate_succ, List.foldl_cons]
    refine ok_foldl h k _ ?_
    rw [Array.all_append, hz, h]; rfl
theorem ok_mul {x : Str} {n : Int} (h : PyData.strOk x = true) : PyData.strOk (Txt.mul x n) = true := by
  unfold Txt.mul
  split
  · simp [PyData.strOk, Str.empty]
  · split
    · exact h
    · exact ok_foldl h _ _ (by simp)
theorem ok_item {x : Str} {i : Int} (h : PyData.strOk x = true) : PyData.strOk (Txt.item x i) = true := by
  unfold Txt.item PyData.strOk
  have hx := Array.all_eq_true.mp h
  have e : (Txt.charAt x i).getD 0 < 0x110000 := by
    cases hc : Txt.charAt x i with
    | none => decide
    | some c =>
      unfold Txt.charAt at hc
      obtain ⟨j, _, hj⟩ := Option.bind_eq_some_iff.mp hc
      obtain ⟨hlt, rfl⟩ := Array.getElem?_eq_some_iff.mp hj
      exact of_decide_eq_true (hx j hlt)
  simp [e]
theorem ok_a : PyData.strOk (Str.ofString "a") = true := by decide +kernel
theorem ok_menu : PyData.strOk (Str.ofString "ab\n\"'") = true := by decide +kernel
-- part En
section
open PyProof.Rows.LCg
section
variable {prog : Program} {w : World} {A : Around} {E : Value → Shared → Prop} {s : Shared} {h₀ : Heap} {L : Addr} {m : Str → Option Value} {env : Env}
/-- the source of a comprehension over enumerate(list), its element making no object -/
def EnSrc (prog : Program) (w : World) (A : Around) (h₀ : Heap) (L : Addr) (m : Str → Option Value) (env : Env) (elt : PySem.Expr) (a b : Str) (scope : Scope) (cl : List (Str × Addr)) (Q : Value → Shared → Prop) (xv : Value) (s₁ : Shared) : Prop :=
  ∃ (e it l : Addr) (rows : List Value) (n : Nat) (f : Nat → Str) (news : List (Addr × Obj)), xv = .ref e ∧ A.handled = none ∧ Fr h₀ L s₁.heap m ∧ News h₀ L s₁.heap news ∧
    (e ≠ it ∧ l ≠ e ∧ l ≠ it) ∧ IsEnum s₁.heap e it 0 .none ∧ s₁.heap.IsListIter it l 0 ∧ (l, PySem.W.listOf rows.toArray n) ∈ news ∧ rows.length ≤ sizeLine ∧
    (L ≠ e ∧ L ≠ it ∧ h₀.get? e = none ∧ h₀.get? it = none) ∧ (∀ p ∈ news, p.1 ≠ e ∧ p.1 ≠ it) ∧
    (∀ (i : Nat) v (t : Tok) C oC m₂ h tk (E' : Value → Shared → Prop), rows[i]? = some v → NsObj oC m₂ → m₂ a = some (.int i t) → m₂ b = some v → Fr h₀ L h m → News h₀ L h ((C, oC) :: news) →
      wpAny (model prog w) A (eval elt (compEnvC scope cl C env)) (fun y s' => ∃ tk' t', y = .str (f i) t' ∧ s' = { s₁ with heap := h, toks := tk' }) E' { s₁ with heap := h, toks := tk }) ∧
    (∀ ys D h tk, ys.length = rows.length → (∀ i : Nat, i < rows.length → ∃ t, ys[i]? = some (.str (f i) t)) → Fr h₀ L h m → News h₀ L h ((D, lst ys) :: news) → Off1 D news → Q (.ref D) { s₁ with heap := h, toks := tk })
theorem en_comp {elt iter : PySem.Expr} {a b : Str} {pa pb tp : Pos} {kk : Nat} {scope : Scope} {cl : List (Str × Addr)} {pos : Pos} {Q : Value → Shared → Prop} (_F₀ : Fr h₀ L s.heap m)
    (hclos : closureFor scope env = pure cl) (hcell : ∀ y ∈ scope.names, y.2 ≠ .cell) (hkind : scope.kind = .function)
    (hnames : ∀ y ∈ scope.names, y.2 = .local → scope.names.lookup y.1 = some .local) (hxa : scope.names.lookup a = some .local) (hxb : scope.names.lookup b = some .local) (hab : ¬ a = b)
    (h : wpAny (model prog w) A (eval iter env) (EnSrc prog w A h₀ L m env elt a b scope cl Q) E s)
    (hs : ∀ x, foldedSetIterable iter env x = pure x := by intro _; rfl) :
    wpAny (model prog w) A (eval (.ListComp elt [⟨.Tuple [.Name a pa, .Name b pb] kk tp, iter, [], 0⟩] scope pos) env) Q E s := by
  rw [eval_ListComp]
  refine wpAny_comprehension_free (use := none) rfl hs hclos hkind hnames (wpAny_mono h (fun xv s₂ h₁ => ?_) fun _ _ e => e)
  obtain ⟨e, it, l, rows, n, f, news, rfl, hh, F, N, ⟨hei, hle, hli⟩, hE, hI, hl, hsz, ⟨hLe, hLi, he₀, hi₀⟩, off, hel, hfin⟩ := h₁
  refine wpAny_pyIter_enum hE ?_
  refine wpAny_newObj_type (wpAny_newFunctionEnv hcell (by intro y hy; simp at hy) (fun h₁ hns₁ hsb₁ => ?_) hkind)
  dsimp only at hns₁ hsb₁ ⊢
  generalize hH2 : s₂.heap.push { cls := .type "list", dict := none, data := .seq ([] : List Value).toArray } = H2 at hns₁ hsb₁ ⊢
  have hC : H2.objs.size = s₂.heap.objs.size + 1 := by rw [← hH2, Heap.size_push]
  have hDC : s₂.heap.objs.size ≠ H2.objs.size := by rw [hC]; exact Nat.ne_of_lt (Nat.lt_succ_self _)
  have below : ∀ q, q < s₂.heap.objs.size → q ≠ H2.objs.size ∧ q ≠ s₂.heap.objs.size := fun q hq => ⟨by rw [hC]; exact Nat.ne_of_lt (Nat.lt_succ_of_lt hq), Nat.ne_of_lt hq⟩
  have old : ∀ q o, s₂.heap.get? q = some o → h₁.get? q = some o := fun q o x => hsb₁.extBut q o (below q (Heap.lt_size x)).1 (Heap.get?_push_of_some _ (hH2 ▸ Heap.get?_push_of_some _ x))
  have hacc : h₁.get? s₂.heap.objs.size = some (lst []) := hsb₁.extBut _ _ hDC (Heap.get?_push_of_some _ (hH2 ▸ Heap.get?_push_size _ rfl))
  have fresh : ∀ q, s₂.heap.objs.size ≤ q → s₂.heap.get? q = none := fun q hq => by
    cases x : s₂.heap.get? q with
    | none => rfl
    | some o' => exact absurd (Heap.lt_size x) (Nat.not_lt.mpr hq)
  have fresh₀ : ∀ q, s₂.heap.objs.size ≤ q → h₀.get? q = none := fun q hq => by
    cases x : h₀.get? q with
    | none => rfl
    | some o' => have := F.keep q o' x; rw [fresh q hq] at this; cases this
  have hD₀ : h₀.get? s₂.heap.objs.size = none := fresh₀ _ (Nat.le_refl _)
  have hC₀ : h₀.get? H2.objs.size = none := fresh₀ _ (by rw [hC]; exact Nat.le_succ _)
  have hDL : s₂.heap.objs.size ≠ L := Ne.symm (below L F.ns.lt).2
  have hCL : H2.objs.size ≠ L := Ne.symm (below L F.ns.lt).1
  have helt : e < s₂.heap.objs.size := Heap.lt_size hE
  have hilt : it < s₂.heap.objs.size := by obtain ⟨_, x, _⟩ := hI; exact Heap.lt_size x
  have hllt : l < s₂.heap.objs.size := Heap.lt_size (N _ hl).1
  have W := WalksT.enumerate (prog := prog) (w := w) hh e it l hei hle hli rows.toArray
  have hlen : rows.toArray.size = rows.length := List.size_toArray
  rw [hlen] at W
  have hst₁ : (∃ o9, IsEnum h₁ e it ((0 : Nat) : Int) o9) ∧ h₁.IsListIter it l 0 ∧ h₁.IsList l rows.toArray := ⟨⟨_, old _ _ hE⟩, hI.at fun o x => old _ o x, ⟨_, old _ _ (N _ hl).1, rfl, n, rfl⟩⟩
  have loop : ∀ s₃ : Shared, s₃ = { s₂ with heap := h₁, toks := s₂.toks + ([] : List (Str × Value)).length } →
      codeAny (model prog w) A (.compLoop (.ListComp elt [⟨.Tuple [.Name a pa, .Name b pb] kk tp, iter, [], 0⟩] scope pos) 0 (.ref e) (.ref s₂.heap.objs.size) (compEnvC scope cl H2.objs.size env))
        (compPost (model prog w) A E none Q (.ref s₂.heap.objs.size) H2.objs.size) s₃ := by
    rintro s₃ rfl
    refine kcp_loop
      (fun k s' => ∃ h' tk i ys m', s' = { s₂ with heap := h', toks := tk } ∧ i ≤ rows.length ∧ k = rows.length + 1 - i ∧ ys.length = i ∧ (∀ j, j < i → ∃ t, ys[j]? = some (.str (f j) t)) ∧
        ((∃ o9, IsEnum h' e it (i : Int) o9) ∧ h'.IsListIter it l i ∧ h'.IsList l rows.toArray) ∧ Fr h₀ L h' m ∧ h'.Ns H2.objs.size m' ∧ News h₀ L h' ((s₂.heap.objs.size, lst ys) :: news)) ?_ (rows.length + 1)
      ⟨h₁, _, 0, [], _, rfl, Nat.zero_le _, rfl, rfl, (fun j hj => nomatch hj), hst₁, F.keeps old, hns₁, fun p hp => ?_⟩
    · rintro k s' ⟨h', tk, i, ys, m', rfl, hi, rfl, hyl, hys, hst', F', hn', N'⟩
      by_cases hlt : i < rows.length
      · refine W.item i _ _ _ hlt hst' fun T vals h₂ tk₂ hP hTn hT hMid hk₂ => ?_
        refine W.go _ _ _ i T _ _ _ hMid fun h₃ hst₃ hk₃ => ?_
        obtain ⟨t, v, hv, rfl⟩ := hP
        have hv' : rows[i]? = some v := by simpa using hv
        have up₃ : ∀ c o, c ≠ e → c ≠ it → h'.get? c = some o → h₃.get? c = some o := fun c o h1 h2 x => hk₃ c o (by simp [h1, h2]) (hk₂ c o (by simp [h1, h2]) x)
        have hT₃ : h₃.IsTuple T #[.int i t, v] := hT.at fun o x => hk₃ T o (W.apart i T _ hMid) x
        refine kcp_assign (env := compEnvC scope cl H2.objs.size env) hh hT₃ (lookup_relabel_local hxa) (lookup_relabel_local hxb) (by simp [compEnvC, relabel, hkind]) (hn'.at' fun o x => up₃ _ o (Ne.symm (below e helt).1) (Ne.symm (below it hilt).1) x) fun h₄ tk₄ hn₄ hs₄ => ?_
        have up : ∀ c o, c ≠ e → c ≠ it → c ≠ H2.objs.size → h'.get? c = some o → h₄.get? c = some o := fun c o h1 h2 h3 x => hs₄ c o h3 (up₃ c o h1 h2 x)
        have hst₄ := W.frame _ _ h₄ hst₃ fun c hc o x => hs₄ c o (by
          rcases List.mem_cons.mp hc with rfl | hc
          · exact (below _ helt).1
          · rcases List.mem_cons.mp hc with rfl | hc
            · exact (below _ hilt).1
            · rw [List.mem_singleton.mp hc]; exact (below _ hllt).1) x
        obtain ⟨oC, heC, hoC⟩ := ns_obj hn₄
        have F₄ : Fr h₀ L h₄ m := ⟨F'.ns.at' fun o x => up _ o hLe hLi (Ne.symm hCL) x, fun c o x => up c o (fun q => by rw [q, he₀] at x; cases x) (fun q => by rw [q, hi₀] at x; cases x) (fun q => by rw [q, hC₀] at x; cases x) (F'.keep c o x), F'.above⟩
        have Nn : News h₀ L h₄ ((s₂.heap.objs.size, lst ys) :: news) := fun q hq => by
          have z := N' q hq
          refine ⟨up _ _ ?_ ?_ ?_ z.1, z.2⟩
          · rcases List.mem_cons.mp hq with rfl | hq
            · exact Nat.ne_of_gt helt
            · exact (off q hq).1
          · rcases List.mem_cons.mp hq with rfl | hq
            · exact Nat.ne_of_gt hilt
            · exact (off q hq).2
          · rcases List.mem_cons.mp hq with rfl | hq
            · exact hDC
            · exact (below _ (Heap.lt_size (N q hq).1)).1
        have N₄ : News h₀ L h₄ ((H2.objs.size, oC) :: news) := fun q hq => by
          rcases List.mem_cons.mp hq with rfl | hq
          · exact ⟨heC, hCL, hC₀⟩
          · exact Nn q (List.mem_cons_of_mem _ hq)
        refine wpAny_mono (hel i v t H2.objs.size oC _ h₄ _ _ hv' hoC (by simp [hab]) (by simp) F₄ N₄) (fun y s₅ h₅ => ?_) fun _ _ x => x
        obtain ⟨tk₅, t₅, rfl, rfl⟩ := h₅
        have zD := (Nn (s₂.heap.objs.size, lst ys) List.mem_cons_self).1
        refine append_at (hsz := by show ys.toArray.size ≤ sizeLine; rw [List.size_toArray, hyl]; exact Nat.le_trans hi hsz) zD fun h₆ hs₆ hD₆ => ?_
        refine ⟨rows.length + 1 - (i + 1), by omega, h₆, _, i + 1, ys ++ [.str (f i) t₅], _, rfl, hlt, rfl, by rw [List.length_append, List.length_singleton, hyl], fun j hj => ?_, W.frame _ _ h₆ hst₄ fun c hc o x => hs₆.extBut c o (by
          rcases List.mem_cons.mp hc with rfl | hc
          · exact Nat.ne_of_lt helt
          · rcases List.mem_cons.mp hc with rfl | hc
            · exact Nat.ne_of_lt hilt
            · rw [List.mem_singleton.mp hc]; exact Nat.ne_of_lt hllt) x, F₄.change hs₆ hDL hD₀, (hoC.ns heC).sameBut hs₆ (Ne.symm hDC), fun q hq => ?_⟩
        · by_cases hj' : j < i
          · obtain ⟨t9, h9⟩ := hys j hj'
            exact ⟨t9, by rw [List.getElem?_append_left (by omega)]; exact h9⟩
          · have hji : j = i := by omega
            subst hji
            exact ⟨t₅, by rw [← hyl]; simp⟩
        · rcases List.mem_cons.mp hq with rfl | hq
          · exact ⟨hD₆.trans (congrArg some (lst_snoc ys _)), hDL, hD₀⟩
          · have z := Nn q (List.mem_cons_of_mem _ hq)
            exact ⟨hs₆.extBut _ _ (below _ (Heap.lt_size (N q hq).1)).2 z.1, z.2⟩
      · have hin : i = rows.length := Nat.le_antisymm hi (Nat.not_lt.mp hlt)
        subst hin
        refine W.done _ _ _ hst' fun h₂ tk₂ hk₂ => ?_
        have up₂ : ∀ c o, c ≠ e → c ≠ it → h'.get? c = some o → h₂.get? c = some o := fun c o h1 h2 x => hk₂ c o (by simp [h1, h2]) x
        have F₂ : Fr h₀ L h₂ m := ⟨F'.ns.at' fun o x => up₂ _ o hLe hLi x, fun c o x => up₂ c o (fun q => by rw [q, he₀] at x; cases x) (fun q => by rw [q, hi₀] at x; cases x) (F'.keep c o x), F'.above⟩
        have hn₂ : h₂.Ns H2.objs.size m' := hn'.at' fun o x => up₂ _ o (Ne.symm (below e helt).1) (Ne.symm (below it hilt).1) x
        refine ⟨m', hn₂, fun h'' hs'' => hfin ys _ h'' tk₂ hyl hys (F₂.change hs'' hCL hC₀) (fun q hq => ?_) ?_⟩
        · have z := N' q hq
          refine ⟨hs''.extBut _ _ ?_ (up₂ _ _ ?_ ?_ z.1), z.2⟩
          · rcases List.mem_cons.mp hq with rfl | hq
            · exact hDC
            · exact (below _ (Heap.lt_size (N q hq).1)).1
          · rcases List.mem_cons.mp hq with rfl | hq
            · exact Nat.ne_of_gt helt
            · exact (off q hq).1
          · rcases List.mem_cons.mp hq with rfl | hq
            · exact Nat.ne_of_gt hilt
            · exact (off q hq).2
        · have hone : ∀ q ∈ news, q.1 ≠ s₂.heap.objs.size := fun q hq => (below _ (Heap.lt_size (N q hq).1)).2
          clear hfin hel hl off N N'
          induction news with
          | nil => trivial
          | cons q r ih => exact ⟨hone q (.head _), ih fun p hp => hone p (.tail _ hp)⟩
    · rcases List.mem_cons.mp hp with rfl | hp
      · exact ⟨hacc, hDL, hD₀⟩
      · exact ⟨old _ _ (N p hp).1, (N p hp).2⟩
  exact codeAny_compStart_list (loop _ rfl) (wpAny_pyIter_enum (old _ _ hE) (loop _ rfl))
theorem en_call {elt : PySem.Expr} {a b : Str} {scope : Scope} {cl : List (Str × Addr)} {Q : Value → Shared → Prop} {l : Addr} {rows : List Value} {n : Nat} {news : List (Addr × Obj)} (f : Nat → Str)
    (hh : A.handled = none) (F : Fr h₀ L s.heap m) (N : News h₀ L s.heap news) (hl : (l, PySem.W.listOf rows.toArray n) ∈ news) (hsz : rows.length ≤ sizeLine)
    (hel : ∀ (i : Nat) v (t : Tok) C oC m₂ h tk (E' : Value → Shared → Prop), rows[i]? = some v → NsObj oC m₂ → m₂ a = some (.int i t) → m₂ b = some v → Fr h₀ L h m → News h₀ L h ((C, oC) :: news) →
      wpAny (model prog w) A (eval elt (compEnvC scope cl C env)) (fun y s' => ∃ tk' t', y = .str (f i) t' ∧ s' = { s with heap := h, toks := tk' }) E' { s with heap := h, toks := tk })
    (hfin : ∀ ys D h tk, ys.length = rows.length → (∀ i : Nat, i < rows.length → ∃ t, ys[i]? = some (.str (f i) t)) → Fr h₀ L h m → News h₀ L h ((D, lst ys) :: news) → Off1 D news → Q (.ref D) { s with heap := h, toks := tk }) :
    wpAny (model prog w) A (call (.type "enumerate") [.ref l]) (EnSrc prog w A h₀ L m env elt a b scope cl Q) E s := by
  have hll := (N _ hl).1
  dsimp only at hll
  refine call_enumerate_list (items := rows.toArray) ⟨_, hll, rfl, n, rfl⟩ fun h' hE hI hsize hk => ?_
  have fresh₀ : ∀ q, s.heap.objs.size ≤ q → h₀.get? q = none := fun q hq => by
    cases x : h₀.get? q with
    | none => rfl
    | some o' => exact absurd (Heap.lt_size (F.keep q o' x)) (Nat.not_lt.mpr hq)
  have lt : ∀ q, q < s.heap.objs.size → q ≠ s.heap.objs.size + 1 ∧ q ≠ s.heap.objs.size := fun q hq => ⟨Nat.ne_of_lt (Nat.lt_succ_of_lt hq), Nat.ne_of_lt hq⟩
  have a1 := lt l (Heap.lt_size hll)
  have a2 := lt L F.ns.lt
  exact ⟨_, _, l, rows, n, f, news, rfl, hh, F.keeps hk, N.grown hk, ⟨Nat.succ_ne_self _, a1⟩, hE, hI, hl, hsz, ⟨a2.1, a2.2, fresh₀ _ (Nat.le_succ _), fresh₀ _ (Nat.le_refl _)⟩, fun p hp => lt _ (Heap.lt_size (N p hp).1), hel, hfin⟩
theorem row_a0 (X : Str) : Str.ofString (toString 0) ++ Str.ofString " " ++ (Str.ofString "push " ++ X) = Str.ofString "0 " ++ Str.ofString "push" ++ (Str.ofString " " ++ X) := by
  have e : Str.ofString "push " = Str.ofString "push" ++ Str.ofString " " := by decide
  have e2 : Str.ofString (toString 0) ++ Str.ofString " " = Str.ofString "0 " := by decide
  rw [e, e2, Str.append_assoc, Str.append_assoc]
theorem row_a1 (X : Str) : Str.ofString (toString 1) ++ Str.ofString " " ++ (Str.ofString "push " ++ X) = Str.ofString "1 " ++ Str.ofString "push" ++ (Str.ofString " " ++ X) := by
  have e : Str.ofString "push " = Str.ofString "push" ++ Str.ofString " " := by decide
  have e2 : Str.ofString (toString 1) ++ Str.ofString " " = Str.ofString "1 " := by decide
  rw [e, e2, Str.append_assoc, Str.append_assoc]
theorem row_b0 (X : Str) : Str.ofString (toString 0) ++ Str.ofString " " ++ (Str.ofString "arg " ++ X) = Str.ofString "0 " ++ Str.ofString "arg" ++ (Str.ofString " " ++ X) := by
  have e : Str.ofString "arg " = Str.ofString "arg" ++ Str.ofString " " := by decide
  have e2 : Str.ofString (toString 0) ++ Str.ofString " " = Str.ofString "0 " := by decide
  rw [e, e2, Str.append_assoc, Str.append_assoc]
theorem row_b1 (X : Str) : Str.ofString (toString 1) ++ Str.ofString " " ++ (Str.ofString "arg " ++ X) = Str.ofString "1 " ++ Str.ofString "arg" ++ (Str.ofString " " ++ X) := by
  have e : Str.ofString "arg " = Str.ofString "arg" ++ Str.ofString " " := by decide
  have e2 : Str.ofString (toString 1) ++ Str.ofString " " = Str.ofString "1 " := by decide
  rw [e, e2, Str.append_assoc, Str.append_assoc]
theorem row_s1 : Str.ofString (toString 1) ++ Str.ofString " " ++ Str.ofString "set" = Str.ofString "1 set" := by decide
theorem row_s2 : Str.ofString (toString 2) ++ Str.ofString " " ++ Str.ofString "set" = Str.ofString "2 set" := by decide
theorem row_j0 : Str.ofString (toString 0) ++ Str.ofString " " ++ Str.ofString "jump 3" = Str.ofString "0 jump 3" := by decide
theorem en_call2 {elt : PySem.Expr} {a b : Str} {scope : Scope} {cl : List (Str × Addr)} {Q : Value → Shared → Prop} {l : Addr} {v0 v1 : Value} {n : Nat} {news : List (Addr × Obj)} {x0 x1 y0 y1 : Str}
    (hh : A.handled = none) (F : Fr h₀ L s.heap m) (N : News h₀ L s.heap news) (hl : (l, PySem.W.listOf #[v0, v1] n) ∈ news)
    (hel0 : ∀ (t : Tok) C oC m₂ h tk (E' : Value → Shared → Prop), NsObj oC m₂ → m₂ a = some (.int 0 t) → m₂ b = some v0 → Fr h₀ L h m → News h₀ L h ((C, oC) :: news) →
      wpAny (model prog w) A (eval elt (compEnvC scope cl C env)) (fun y s' => ∃ tk' t', y = .str x0 t' ∧ s' = { s with heap := h, toks := tk' }) E' { s with heap := h, toks := tk })
    (hel1 : ∀ (t : Tok) C oC m₂ h tk (E' : Value → Shared → Prop), NsObj oC m₂ → m₂ a = some (.int 1 t) → m₂ b = some v1 → Fr h₀ L h m → News h₀ L h ((C, oC) :: news) →
      wpAny (model prog w) A (eval elt (compEnvC scope cl C env)) (fun y s' => ∃ tk' t', y = .str x1 t' ∧ s' = { s with heap := h, toks := tk' }) E' { s with heap := h, toks := tk })
    (ey0 : x0 = y0) (ey1 : x1 = y1)
    (hfin : ∀ t0 t1 D h tk, Fr h₀ L h m → News h₀ L h ((D, PySem.W.listOf #[.str y0 t0, .str y1 t1] 2) :: news) → Off1 D news → Q (.ref D) { s with heap := h, toks := tk }) :
    wpAny (model prog w) A (call (.type "enumerate") [.ref l]) (EnSrc prog w A h₀ L m env elt a b scope cl Q) E s := by
  subst ey0 ey1
  refine en_call (rows := [v0, v1]) (fun i => if i = 0 then x0 else x1) hh F N hl (Nat.le_of_ble_eq_true rfl) (fun i v t C oC m₂ h tk E' hv hC ha hb F' N' => ?_) (fun ys D h tk hy hys F' N' o => ?_)
  · match i, hv with
    | 0, hv => cases hv; exact hel0 t C oC m₂ h tk E' hC ha hb F' N'
    | 1, hv => cases hv; exact hel1 t C oC m₂ h tk E' hC ha hb F' N'
    | i + 2, hv => simp at hv
  · obtain ⟨t0, e0⟩ := hys 0 (Nat.lt_of_sub_pos (Nat.succ_pos _))
    obtain ⟨t1, e1⟩ := hys 1 (Nat.lt_of_sub_pos (Nat.succ_pos _))
    match ys, hy with
    | [y0, y1], _ =>
      cases e0
      cases e1
      exact hfin t0 t1 D h tk F' N' o
theorem en_call3 {elt : PySem.Expr} {a b : Str} {scope : Scope} {cl : List (Str × Addr)} {Q : Value → Shared → Prop} {l : Addr} {v0 v1 v2 : Value} {n : Nat} {news : List (Addr × Obj)} {x0 x1 x2 y0 y1 y2 : Str}
    (hh : A.handled = none) (F : Fr h₀ L s.heap m) (N : News h₀ L s.heap news) (hl : (l, PySem.W.listOf #[v0, v1, v2] n) ∈ news)
    (hel0 : ∀ (t : Tok) C oC m₂ h tk (E' : Value → Shared → Prop), NsObj oC m₂ → m₂ a = some (.int 0 t) → m₂ b = some v0 → Fr h₀ L h m → News h₀ L h ((C, oC) :: news) →
      wpAny (model prog w) A (eval elt (compEnvC scope cl C env)) (fun y s' => ∃ tk' t', y = .str x0 t' ∧ s' = { s with heap := h, toks := tk' }) E' { s with heap := h, toks := tk })
    (hel1 : ∀ (t : Tok) C oC m₂ h tk (E' : Value → Shared → Prop), NsObj oC m₂ → m₂ a = some (.int 1 t) → m₂ b = some v1 → Fr h₀ L h m → News h₀ L h ((C, oC) :: news) →
      wpAny (model prog w) A (eval elt (compEnvC scope cl C env)) (fun y s' => ∃ tk' t', y = .str x1 t' ∧ s' = { s with heap := h, toks := tk' }) E' { s with heap := h, toks := tk })
    (hel2 : ∀ (t : Tok) C oC m₂ h tk (E' : Value → Shared → Prop), NsObj oC m₂ → m₂ a = some (.int 2 t) → m₂ b = some v2 → Fr h₀ L h m → News h₀ L h ((C, oC) :: news) →
      wpAny (model prog w) A (eval elt (compEnvC scope cl C env)) (fun y s' => ∃ tk' t', y = .str x2 t' ∧ s' = { s with heap := h, toks := tk' }) E' { s with heap := h, toks := tk })
    (ey0 : x0 = y0) (ey1 : x1 = y1) (ey2 : x2 = y2)
    (hfin : ∀ t0 t1 t2 D h tk, Fr h₀ L h m → News h₀ L h ((D, PySem.W.listOf #[.str y0 t0, .str y1 t1, .str y2 t2] 3) :: news) → Off1 D news → Q (.ref D) { s with heap := h, toks := tk }) :
    wpAny (model prog w) A (call (.type "enumerate") [.ref l]) (EnSrc prog w A h₀ L m env elt a b scope cl Q) E s := by
  subst ey0 ey1 ey2
  refine en_call (rows := [v0, v1, v2]) (fun i => if i = 0 then x0 else if i = 1 then x1 else x2) hh F N hl (Nat.le_of_ble_eq_true rfl) (fun i v t C oC m₂ h tk E' hv hC ha hb F' N' => ?_) (fun ys D h tk hy hys F' N' o => ?_)
  · match i, hv with
    | 0, hv => cases hv; exact hel0 t C oC m₂ h tk E' hC ha hb F' N'
    | 1, hv => cases hv; exact hel1 t C oC m₂ h tk E' hC ha hb F' N'
    | 2, hv => cases hv; exact hel2 t C oC m₂ h tk E' hC ha hb F' N'
    | i + 3, hv => simp at hv
  · obtain ⟨t0, e0⟩ := hys 0 (Nat.lt_of_sub_pos (Nat.succ_pos _))
    obtain ⟨t1, e1⟩ := hys 1 (Nat.lt_of_sub_pos (Nat.succ_pos _))
    obtain ⟨t2, e2⟩ := hys 2 (Nat.lt_of_sub_pos (Nat.succ_pos _))
    match ys, hy with
    | [y0, y1, y2], _ =>
      cases e0
      cases e1
      cases e2
      exact hfin t0 t1 t2 D h tk F' N' o
end
end
-- part C1
section
variable {w : World} {news : List (Addr × Obj)}
theorem is_bounded_int {n : Int} {tk : Tok} : Call 10 w 163 [.int n tk] news (fun Q E G R U s => ∀ h' tk', G news h' → Q (.bool (decide ((Builtin.Int.intBits n : Int) ≤ 512))) { s with heap := h', toks := tk' }) := by
  intro p loose mean mg mb dp un gd cn cnm cg cc cmo a ccd cl outer A₀ base h₀ L m s Q E B F X N T XB TB hdp hu hret
  refine wpAny_call ?_
  k_dflt k_enter
  (k_extra "t_steps3")
  exact hret _ _ ⟨by k_asm, by (k_extra "my_N")⟩
theorem qb {Q : Value → Shared → Prop} {b b' : Bool} {s : Shared} (h : Q (.bool b) s) (e : b' = b) : Q (.bool b') s := e ▸ h
theorem is_bounded_str {x : Str} {tk : Tok} (hx : x.length ≤ 5000) : Call 10 w 163 [.str x tk] news (fun Q E G R U s => ∀ h' tk', G news h' → Q (.bool (decide ((x.length : Int) ≤ 2000))) { s with heap := h', toks := tk' }) := by
  intro p loose mean mg mb dp un gd cn cnm cg cc cmo a ccd cl outer A₀ base h₀ L m s Q E B F X N T XB TB hdp hu hret
  refine wpAny_call ?_
  k_dflt k_enter
  (k_extra "t_steps3")
  exact hret _ _ ⟨by k_asm, by (k_extra "my_N")⟩
end
/-- an op that the law asks of, its value, and whether is_pair takes it -/
inductive Pair : Str → Value → Bool → Prop
  | int (n : Int) (t : Tok) : Pair "push" (.int n t) (decide ((Builtin.Int.intBits n : Int) ≤ 512))
  | str (x : Str) (t : Tok) (hx : x.length ≤ 5000) : Pair "push" (.str x t) (decide ((x.length : Int) ≤ 2000))
  | arg (n : Int) (t : Tok) : Pair "arg" (.int n t) (decide ((Builtin.Int.intBits n : Int) ≤ 512) && decide (1 ≤ n))
section
variable {w : World} {news : List (Addr × Obj)}
theorem is_pair_c {op : Str} {v : Value} {b : Bool} (hp : Pair op v b) {t0 t1 : Tok} {k : Int} : Call 10 w 170 [.str op t0, v, .int k t1] news (fun Q E G R U s => ∀ h' tk', G news h' → Q (.bool b) { s with heap := h', toks := tk' }) := by
  intro p loose mean mg mb dp un gd cn cnm cg cc cmo a ccd cl outer A₀ base h₀ L m s Q E B F X N T XB TB hdp hu hret
  refine wpAny_call ?_
  cases hp
  all_goals (
    k_dflt k_enter
    (k_extra "t_steps3"))
  · exact qb (hret _ _ ⟨by k_asm, by (k_extra "my_N")⟩) rfl
  · exact qb (hret _ _ ⟨by k_asm, by (k_extra "my_N")⟩) rfl
  · refine qb (hret _ _ ⟨by k_asm, by (k_extra "my_N")⟩) ?_
    first | (simp_all; done) | (simp_all; omega)
  · refine qb (hret _ _ ⟨by k_asm, by (k_extra "my_N")⟩) ?_
    first | (simp_all; done) | (simp_all; omega)
end
section
variable {w : World} {news : List (Addr × Obj)}
theorem is_pair_set {t0 t1 : Tok} {k : Int} : Call 10 w 170 [.str "set" t0, .none, .int k t1] news (fun Q E G R U s => ∀ h' tk', G news h' → Q (.bool true) { s with heap := h', toks := tk' }) := by
  intro p loose mean mg mb dp un gd cn cnm cg cc cmo a ccd cl outer A₀ base h₀ L m s Q E B F X N T XB TB hdp hu hret
  refine wpAny_call ?_
  k_dflt k_enter
  (k_extra "t_steps3")
  exact qb (hret _ _ ⟨by k_asm, by (k_extra "my_N")⟩) (by first | rfl | simp_all)
theorem is_pair_jump {t0 t1 t2 : Tok} : Call 10 w 170 [.str "jump" t0, .int 3 t1, .int 3 t2] news (fun Q E G R U s => ∀ h' tk', G news h' → Q (.bool true) { s with heap := h', toks := tk' }) := by
  intro p loose mean mg mb dp un gd cn cnm cg cc cmo a ccd cl outer A₀ base h₀ L m s Q E B F X N T XB TB hdp hu hret
  refine wpAny_call ?_
  k_dflt k_enter
  (k_extra "t_steps3")
  exact qb (hret _ _ ⟨by k_asm, by (k_extra "my_N")⟩) (by first | rfl | simp_all)
theorem off1_of_lt {d : Addr} {l : List (Addr × Obj)} (h : AllLt d l) : LCg.Off1 d l := by
  induction l with
  | nil => trivial
  | cons a r ih => exact ⟨Nat.ne_of_lt h.1, ih h.2⟩
theorem wd16 : True := by
  (k_with "my_o1" => first
      | assumption | exact off1_of_lt (by assumption) | exact off1_of_lt (‹_ ∧ AllLt _ _›).2 | exact off1_of_lt (‹_ ∧ _ ∧ AllLt _ _›).2.2 | exact off1_of_lt (‹_ ∧ _ ∧ _ ∧ AllLt _ _›).2.2.2 | exact off1_of_lt (‹_ ∧ _ ∧ _ ∧ _ ∧ AllLt _ _›).2.2.2.2 | exact off1_of_lt (‹_ ∧ _ ∧ _ ∧ _ ∧ _ ∧ AllLt _ _›).2.2.2.2.2)
  trivial
/-- taken_and_put of the ops that the law asks of -/
inductive TP : Str → Value → Int → Int → Prop
  | pair {op : Str} {v : Value} {b : Bool} (h : Pair op v b) : TP op v 0 1
  | set : TP "set" .none 1 0
  | jump (t : Tok) : TP "jump" (.int 3 t) 0 0
theorem taken_put {op : Str} {v : Value} {x y : Int} (h : TP op v x y) {t0 : Tok} : Call 10 w 156 [.str op t0, v] news (fun Q E G R U s => ∀ D h' tk' t1 t2, G ((D, tupO [.int x t1, .int y t2]) :: news) h' → LCg.Off1 D news → Q (.ref D) { s with heap := h', toks := tk' }) := by
  intro p loose mean mg mb dp un gd cn cnm cg cc cmo a ccd cl outer A₀ base h₀ L m s Q E B F X N T XB TB hdp hu hret
  refine wpAny_call ?_
  cases h with
  | pair hp =>
    cases hp
    all_goals (
      k_dflt k_enter
      (k_extra "t_steps3")
      exact hret _ _ _ _ _ ⟨by k_asm, by (k_extra "my_N")⟩ (by (k_extra "my_o1")))
  | set =>
    k_dflt k_enter
    (k_extra "t_steps3")
    exact hret _ _ _ _ _ ⟨by k_asm, by (k_extra "my_N")⟩ (by (k_extra "my_o1"))
  | jump =>
    k_dflt k_enter
    (k_extra "t_steps3")
    exact hret _ _ _ _ _ ⟨by k_asm, by (k_extra "my_N")⟩ (by (k_extra "my_o1"))
end
-- part C2
section
variable {w : World} {news : List (Addr × Obj)} {c t0 t1 t2 : Addr} {k : Nat} {o0 o1 o2 o3 : Tok}
theorem goals_A0 {op : Str} {v : Value} {b : Bool} (hp : Pair op v b) :
    Call 10 w 149 [.ref c, .int 0 o3] ((c, PySem.W.listOf #[.ref t0, .ref t1] k) :: (t0, tupO [.str op o0, v]) :: news) (fun Q E G R U s => ∀ D h' tk' t1 k', G ((D, PySem.W.listOf #[.int 1 t1] k') :: news) h' → LCg.Off1 D news → Q (.ref D) { s with heap := h', toks := tk' }) := by
  intro p loose mean mg mb dp un gd cn cnm cg cc cmo a ccd cl outer A₀ base h₀ L m s Q E B F X N T XB TB hdp hu hret
  refine wpAny_call ?_
  cases hp
  all_goals (
    k_dflt k_enter
    (k_extra "t_steps3"))
  all_goals exact hret _ _ _ _ _ ⟨by k_asm, by (k_extra "my_N")⟩ (by (k_extra "my_o1"))
theorem goals_A1 :
    Call 10 w 149 [.ref c, .int 1 o3] ((c, PySem.W.listOf #[.ref t0, .ref t1] k) :: (t1, tupO [.str "set" o0, .none]) :: news) (fun Q E G R U s => ∀ D h' tk' t1 k', G ((D, PySem.W.listOf #[.int 2 t1] k') :: news) h' → LCg.Off1 D news → Q (.ref D) { s with heap := h', toks := tk' }) := by
  intro p loose mean mg mb dp un gd cn cnm cg cc cmo a ccd cl outer A₀ base h₀ L m s Q E B F X N T XB TB hdp hu hret
  refine wpAny_call ?_
  k_dflt k_enter
  (k_extra "t_steps3")
  exact hret _ _ _ _ _ ⟨by k_asm, by (k_extra "my_N")⟩ (by (k_extra "my_o1"))
theorem goals_B0 :
    Call 10 w 149 [.ref c, .int 0 o3] ((c, PySem.W.listOf #[.ref t0, .ref t1, .ref t2] k) :: (t0, tupO [.str "jump" o0, .int 3 o1]) :: news) (fun Q E G R U s => ∀ D h' tk' t1 k', G ((D, PySem.W.listOf #[.int 3 t1] k') :: news) h' → LCg.Off1 D news → Q (.ref D) { s with heap := h', toks := tk' }) := by
  intro p loose mean mg mb dp un gd cn cnm cg cc cmo a ccd cl outer A₀ base h₀ L m s Q E B F X N T XB TB hdp hu hret
  refine wpAny_call ?_
  k_dflt k_enter
  (k_extra "t_steps3")
  exact hret _ _ _ _ _ ⟨by k_asm, by (k_extra "my_N")⟩ (by (k_extra "my_o1"))
end
-- part C3
theorem news_2 {h₀ h : Heap} {L : Addr} {news : List (Addr × Obj)} {a b : Addr × Obj} (N : News h₀ L h news) (h1 : a ∈ news) (h2 : b ∈ news) : News h₀ L h (a :: b :: news) := by
  intro p hp
  rcases List.mem_cons.mp hp with rfl | hp
  · exact N _ h1
  rcases List.mem_cons.mp hp with rfl | hp
  · exact N _ h2
  exact N _ hp
theorem wd17 : True := by
  (k_with "my_backB" => (intro h'w tk'w G'w; (obtain ⟨F'w, N'w⟩ := G'w); (try dsimp only); (try k_sweep)))
  (k_with "call ref" => ((with_reducible show wpAny _ _ (call (Value.ref 170) _) _ _ _); (first | (k_here; k_dflt (refine' ((is_pair_c ‹Pair _ _ _›)) _ _ _ _ _ _ _ _ _ _ _ _ _ _ _ _ _ _ _ _ _ _ _ _ _ ?k1z51xw53x ?k2z51xw53x ?k3z51xw53x ?k4z51xw53x ?k5z51xw53x ?k8z51xw53x ?k9z51xw53x ?kdz51xw53x ?kuz51xw53x ?_; (case k1z51xw53x => k_asm); (case k2z51xw53x => k_asm); (case k3z51xw53x => k_asm); (case k4z51xw53x => k_asm); (case k5z51xw53x => k_asm); (case k8z51xw53x => assumption); (case k9z51xw53x => assumption); (case kdz51xw53x => (k_extra "my_room")); (case kuz51xw53x => (k_extra "my_units")))) | (k_here; k_dflt (refine' (is_pair_set) _ _ _ _ _ _ _ _ _ _ _ _ _ _ _ _ _ _ _ _ _ _ _ _ _ ?k1z52xw53x ?k2z52xw53x ?k3z52xw53x ?k4z52xw53x ?k5z52xw53x ?k8z52xw53x ?k9z52xw53x ?kdz52xw53x ?kuz52xw53x ?_; (case k1z52xw53x => k_asm); (case k2z52xw53x => k_asm); (case k3z52xw53x => k_asm); (case k4z52xw53x => k_asm); (case k5z52xw53x => k_asm); (case k8z52xw53x => assumption); (case k9z52xw53x => assumption); (case kdz52xw53x => (k_extra "my_room")); (case kuz52xw53x => (k_extra "my_units")))) | (k_here; k_dflt (refine' (is_pair_jump) _ _ _ _ _ _ _ _ _ _ _ _ _ _ _ _ _ _ _ _ _ _ _ _ _ ?k1z53xw53x ?k2z53xw53x ?k3z53xw53x ?k4z53xw53x ?k5z53xw53x ?k8z53xw53x ?k9z53xw53x ?kdz53xw53x ?kuz53xw53x ?_; (case k1z53xw53x => k_asm); (case k2z53xw53x => k_asm); (case k3z53xw53x => k_asm); (case k4z53xw53x => k_asm); (case k5z53xw53x => k_asm); (case k8z53xw53x => assumption); (case k9z53xw53x => assumption); (case kdz53xw53x => (k_extra "my_room")); (case kuz53xw53x => (k_extra "my_units"))))); (k_extra "my_backB")))
  (k_with "call ref" => ((with_reducible show wpAny _ _ (call (Value.ref 156) _) _ _ _); (first | (k_here; k_dflt (refine' ((taken_put (TP.pair ‹Pair _ _ _›))) _ _ _ _ _ _ _ _ _ _ _ _ _ _ _ _ _ _ _ _ _ _ _ _ _ ?k1z55xw57x ?k2z55xw57x ?k3z55xw57x ?k4z55xw57x ?k5z55xw57x ?k8z55xw57x ?k9z55xw57x ?kdz55xw57x ?kuz55xw57x ?_; (case k1z55xw57x => k_asm); (case k2z55xw57x => k_asm); (case k3z55xw57x => k_asm); (case k4z55xw57x => k_asm); (case k5z55xw57x => k_asm); (case k8z55xw57x => assumption); (case k9z55xw57x => assumption); (case kdz55xw57x => (k_extra "my_room")); (case kuz55xw57x => (k_extra "my_units")))) | (k_here; k_dflt (refine' ((taken_put TP.set)) _ _ _ _ _ _ _ _ _ _ _ _ _ _ _ _ _ _ _ _ _ _ _ _ _ ?k1z56xw57x ?k2z56xw57x ?k3z56xw57x ?k4z56xw57x ?k5z56xw57x ?k8z56xw57x ?k9z56xw57x ?kdz56xw57x ?kuz56xw57x ?_; (case k1z56xw57x => k_asm); (case k2z56xw57x => k_asm); (case k3z56xw57x => k_asm); (case k4z56xw57x => k_asm); (case k5z56xw57x => k_asm); (case k8z56xw57x => assumption); (case k9z56xw57x => assumption); (case kdz56xw57x => (k_extra "my_room")); (case kuz56xw57x => (k_extra "my_units")))) | (k_here; k_dflt (refine' ((taken_put (TP.jump _))) _ _ _ _ _ _ _ _ _ _ _ _ _ _ _ _ _ _ _ _ _ _ _ _ _ ?k1z57xw57x ?k2z57xw57x ?k3z57xw57x ?k4z57xw57x ?k5z57xw57x ?k8z57xw57x ?k9z57xw57x ?kdz57xw57x ?kuz57xw57x ?_; (case k1z57xw57x => k_asm); (case k2z57xw57x => k_asm); (case k3z57xw57x => k_asm); (case k4z57xw57x => k_asm); (case k5z57xw57x => k_asm); (case k8z57xw57x => assumption); (case k9z57xw57x => assumption); (case kdz57xw57x => (k_extra "my_room")); (case kuz57xw57x => (k_extra "my_units"))))); intro D'w h'w tk'w t1'w t2'w G'w o1'w; (obtain ⟨F'w, N'w⟩ := G'w); (try dsimp only); (try k_sweep)))
  (k_with "call ref" => ((with_reducible show wpAny _ _ (call (Value.ref 149) _) _ _ _); (first | (k_here; k_dflt (refine' ((goals_A0 ‹Pair _ _ _›)) _ _ _ _ _ _ _ _ _ _ _ _ _ _ _ _ _ _ _ _ _ _ _ _ _ ?k1z59xw61x ?k2z59xw61x ?k3z59xw61x ?k4z59xw61x ?k5z59xw61x ?k8z59xw61x ?k9z59xw61x ?kdz59xw61x ?kuz59xw61x ?_; (case k1z59xw61x => k_asm); (case k2z59xw61x => k_asm); (case k3z59xw61x => k_asm); (case k4z59xw61x => exact news_2 (by k_asm) (by k_mem) (by k_mem)); (case k5z59xw61x => k_asm); (case k8z59xw61x => assumption); (case k9z59xw61x => assumption); (case kdz59xw61x => (k_extra "my_room")); (case kuz59xw61x => (k_extra "my_units")))) | (k_here; k_dflt (refine' (goals_A1) _ _ _ _ _ _ _ _ _ _ _ _ _ _ _ _ _ _ _ _ _ _ _ _ _ ?k1z60xw61x ?k2z60xw61x ?k3z60xw61x ?k4z60xw61x ?k5z60xw61x ?k8z60xw61x ?k9z60xw61x ?kdz60xw61x ?kuz60xw61x ?_; (case k1z60xw61x => k_asm); (case k2z60xw61x => k_asm); (case k3z60xw61x => k_asm); (case k4z60xw61x => exact news_2 (by k_asm) (by k_mem) (by k_mem)); (case k5z60xw61x => k_asm); (case k8z60xw61x => assumption); (case k9z60xw61x => assumption); (case kdz60xw61x => (k_extra "my_room")); (case kuz60xw61x => (k_extra "my_units")))) | (k_here; k_dflt (refine' (goals_B0) _ _ _ _ _ _ _ _ _ _ _ _ _ _ _ _ _ _ _ _ _ _ _ _ _ ?k1z61xw61x ?k2z61xw61x ?k3z61xw61x ?k4z61xw61x ?k5z61xw61x ?k8z61xw61x ?k9z61xw61x ?kdz61xw61x ?kuz61xw61x ?_; (case k1z61xw61x => k_asm); (case k2z61xw61x => k_asm); (case k3z61xw61x => k_asm); (case k4z61xw61x => exact news_2 (by k_asm) (by k_mem) (by k_mem)); (case k5z61xw61x => k_asm); (case k8z61xw61x => assumption); (case k9z61xw61x => assumption); (case kdz61xw61x => (k_extra "my_room")); (case kuz61xw61x => (k_extra "my_units"))))); intro D'w h'w tk'w t1'w k'w G'w o1'w; (obtain ⟨F'w, N'w⟩ := G'w); (try dsimp only); (try k_sweep)))
  trivial
theorem fin_all {h₀ h h' g : Heap} {L L' : Addr} {m m' : Str → Option Value} {n0 all new' : List (Addr × Obj)} (F : Fr h₀ L h m) (N : News h₀ L h all) (N0 : News h₀ L h n0) (FG : Fr h₀ L g m) (hg : Ground h n0 g) (F' : Fr g L' h' m') (N' : News g L' h' new') (hs : ∀ q ∈ n0, q ∈ new') : Fr h₀ L h' m ∧ News h₀ L h' all :=
  ⟨(back_plain F N N0 FG hg F' N' hs).1, fun q hq => (back_plain F N N0 FG hg F' N' hs).2 q (List.mem_append_right _ hq)⟩
theorem fin_new {h₀ h h' g : Heap} {L L' D : Addr} {o : Obj} {m m' : Str → Option Value} {n0 all new' : List (Addr × Obj)} (F : Fr h₀ L h m) (N : News h₀ L h all) (N0 : News h₀ L h n0) (FG : Fr h₀ L g m) (hg : Ground h n0 g) (F' : Fr g L' h' m') (N' : News g L' h' new') (hs : ∀ q ∈ n0, q ∈ new') (hD : (D, o) ∈ new') :
    Fr h₀ L h' m ∧ News h₀ L h' ((D, o) :: all) :=
  ⟨(back_plain F N N0 FG hg F' N' hs).1, fun q hq => (back_plain F N N0 FG hg F' N' hs).2 q (by
    rcases List.mem_cons.mp hq with rfl | hq
    · exact List.mem_append_left _ hD
    · exact List.mem_append_right _ hq)⟩
theorem news_l1 {h₀ h : Heap} {L : Addr} {all : List (Addr × Obj)} {a : Addr × Obj} (N : News h₀ L h all) (h1 : a ∈ all) : News h₀ L h [a] := fun p hp => by
  rcases List.mem_cons.mp hp with rfl | hp
  · exact N _ h1
  · cases hp
theorem news_lc {h₀ h : Heap} {L : Addr} {all l : List (Addr × Obj)} {a : Addr × Obj} (N : News h₀ L h all) (h1 : a ∈ all) (h2 : News h₀ L h l) : News h₀ L h (a :: l) := fun p hp => by
  rcases List.mem_cons.mp hp with rfl | hp
  · exact N _ h1
  · exact h2 _ hp
theorem wd18 : True := by
  (k_with "g_enter" => first
      | (refine' enterG ?k1w62x ?k2w62x ?k3w62x ?k4w62x ?k5w62x ?kAw62x ?kFw62x ?kKw62x ?k6w62x ?k7w62x ?k8w62x ?k9w62x ?kBw62x ?_ ?c2w62x ?c3w62x ?c4w62x ?c5w62x; (case kAw62x => exact rfl); (case kFw62x => exact rfl); (case kKw62x => exact rfl); (case k1w62x => k_asm); (case k2w62x => k_asm); (case k3w62x => k_asm); (case k4w62x => k_asm); (case k5w62x => k_asm); (case k6w62x => k_is); (case k7w62x => k_is); (case k8w62x => k_room); (case k9w62x => (k_extra "b_eq")); (case c5w62x => decide); (case kBw62x => exact locs rfl); (case c2w62x => exact rfl); (case c3w62x => exact rfl); (case c4w62x => exact rfl); k_whole; intro g'w L'w h'w FG'w F'w N'w B'w X'w T'w l1 hG'w; (try simp only [AllLt, and_true] at l1); (try dsimp only); (try k_fold))
      | (refine' enterCG ?k1w62x ?k2w62x ?k3w62x ?k4w62x ?k5w62x ?kAw62x ?kFw62x ?kKw62x ?k6w62x ?k7w62x ?k8w62x ?k9w62x ?kBw62x ?kDw62x ?_ ?c2w62x ?c3w62x ?c4w62x; (case kAw62x => exact rfl); (case kFw62x => exact rfl); (case kKw62x => exact rfl); (case k1w62x => k_asm); (case k2w62x => k_asm); (case k3w62x => k_asm); (case k4w62x => k_asm); (case k5w62x => k_asm); (case k6w62x => k_is); (case k7w62x => k_is); (case k8w62x => k_room); (case k9w62x => (k_extra "b_eq")); (case kBw62x => exact rfl); (case kDw62x => decide +kernel); (case c2w62x => exact rfl); (case c3w62x => exact rfl); (case c4w62x => exact rfl); k_whole; intro g'w L'w h'w tk'w cells'w FG'w F'w N'w Y'w B'w X'w T'w l1 hG'w; (try k_lt l1); k_cells Y'w; (try simp only [List.cons_append, List.nil_append] at N'w); (try dsimp only); (try k_fold)))
  (k_with "subscriptTail Subscript Name Name Constant ref int" => (k_extra "my_sub1"))
  (k_with "subscriptTail Name Name ref int" => (k_here; (with_reducible rename IntsAre _ (List.map _ (rangeKs _ _)) => hI9w); k_dflt (first
      | (obtain ⟨t91, t92, t93, e9w⟩ := ints3 (a := -1) (b := -1) (c := -1) hI9w; subst e9w)
      | (obtain ⟨t91, t92, t93, t94, e9w⟩ := ints4 (a := -1) (b := -1) (c := -1) (d := -1) hI9w; subst e9w)); walk_say "OPENED3"))
  trivial
section
variable {w : World} {all : List (Addr × Obj)} {c t0 t1 t2 : Addr} {k : Nat} {o0 o1 o2 o3 : Tok}
theorem check_A_ok {op : Str} {v : Value} (hp : Pair op v true) (hc : (c, PySem.W.listOf #[.ref t0, .ref t1] k) ∈ all) (h1 : (t1, tupO [.str "set" o1, .none]) ∈ all) (h0 : (t0, tupO [.str op o0, v]) ∈ all) :
    Call 20 w 175 [.ref c] all (fun Q E G R U s => ∀ h' tk', G all h' → Q .none { s with heap := h', toks := tk' }) := by
  intro p loose mean mg mb dp un gd cn cnm cg cc cmo a ccd cl outer A₀ base h₀ L m s Q E B F X N T XB TB hdp hu hret
  have N0 := news_lc N hc (news_lc N h1 (news_l1 N h0))
  refine wpAny_call ?_
  k_dflt (k_extra "g_enter")
  (k_extra "t_steps3")
  exact hret _ _ (fin_all F N N0 (by assumption) (by assumption) (by k_asm) (by k_asm) (by (k_extra "my_keep")))
theorem check_B_ok {op : Str} {v : Value} (hp : Pair op v true) (hc : (c, PySem.W.listOf #[.ref t0, .ref t1, .ref t2] k) ∈ all) (h2 : (t2, tupO [.str "set" o2, .none]) ∈ all) (h1 : (t1, tupO [.str op o1, v]) ∈ all) (h0 : (t0, tupO [.str "jump" o0, .int 3 o3]) ∈ all) :
    Call 20 w 175 [.ref c] all (fun Q E G R U s => ∀ h' tk', G all h' → Q .none { s with heap := h', toks := tk' }) := by
  intro p loose mean mg mb dp un gd cn cnm cg cc cmo a ccd cl outer A₀ base h₀ L m s Q E B F X N T XB TB hdp hu hret
  have N0 := news_lc N hc (news_lc N h2 (news_lc N h1 (news_l1 N h0)))
  refine wpAny_call ?_
  k_dflt (k_extra "g_enter")
  (k_extra "t_steps3")
  exact hret _ _ (fin_all F N N0 (by assumption) (by assumption) (by k_asm) (by k_asm) (by (k_extra "my_keep")))
theorem check_A_no {op : Str} {v : Value} (hp : Pair op v false) (hc : (c, PySem.W.listOf #[.ref t0, .ref t1] k) ∈ all) (h1 : (t1, tupO [.str "set" o1, .none]) ∈ all) (h0 : (t0, tupO [.str op o0, v]) ∈ all) :
    Call 20 w 175 [.ref c] all (fun Q E G R U s => ∀ e h' tk', R e 62 h' → E (.ref e) { s with heap := h', toks := tk' }) := by
  intro p loose mean mg mb dp un gd cn cnm cg cc cmo a ccd cl outer A₀ base h₀ L m s Q E B F X N T XB TB hdp hu hret
  have N0 := news_lc N hc (news_lc N h1 (news_l1 N h0))
  refine wpAny_call ?_
  k_dflt (k_extra "g_enter")
  (k_extra "t_steps3")
  refine leave_first (by k_asm) (by k_asm) (by k_asm) (by k_mem) ?hs rfl rfl (fun h' R => hret _ _ _ (raised_more F B N N0 rfl (by assumption) R))
  case hs => (k_extra "my_sub")
theorem check_B_no {op : Str} {v : Value} (hp : Pair op v false) (hc : (c, PySem.W.listOf #[.ref t0, .ref t1, .ref t2] k) ∈ all) (h2 : (t2, tupO [.str "set" o2, .none]) ∈ all) (h1 : (t1, tupO [.str op o1, v]) ∈ all) (h0 : (t0, tupO [.str "jump" o0, .int 3 o3]) ∈ all) :
    Call 20 w 175 [.ref c] all (fun Q E G R U s => ∀ e h' tk', R e 62 h' → E (.ref e) { s with heap := h', toks := tk' }) := by
  intro p loose mean mg mb dp un gd cn cnm cg cc cmo a ccd cl outer A₀ base h₀ L m s Q E B F X N T XB TB hdp hu hret
  have N0 := news_lc N hc (news_lc N h2 (news_lc N h1 (news_l1 N h0)))
  refine wpAny_call ?_
  k_dflt (k_extra "g_enter")
  (k_extra "t_steps3")
  refine leave_first (by k_asm) (by k_asm) (by k_asm) (by k_mem) ?hs rfl rfl (fun h' R => hret _ _ _ (raised_more F B N N0 rfl (by assumption) R))
  case hs => (k_extra "my_sub")
end
-- part C4
theorem wd19 : True := by
  (k_with "my_backE" => (intro e'w h'w tk'w G'w; (obtain ⟨g'w, FG'w, R'w⟩ := G'w); (try dsimp only)))
  (k_with "call ref" => ((with_reducible show wpAny _ _ (call (Value.ref 175) _) _ _ _); (first | ((k_here; k_dflt (refine' ((check_A_ok ‹Pair _ _ true›) ?m1z67xw70x ?m2z67xw70x ?m3z67xw70x) _ _ _ _ _ _ _ _ _ _ _ _ _ _ _ _ _ _ _ _ _ _ _ _ _ ?k1z67xw70x ?k2z67xw70x ?k3z67xw70x ?k4z67xw70x ?k5z67xw70x ?k8z67xw70x ?k9z67xw70x ?kdz67xw70x ?kuz67xw70x ?_; (case k1z67xw70x => k_asm); (case k2z67xw70x => k_asm); (case k3z67xw70x => k_asm); (case k4z67xw70x => k_asm); (case k5z67xw70x => k_asm); (case k8z67xw70x => assumption); (case k9z67xw70x => assumption); (case kdz67xw70x => (k_extra "my_room")); (case kuz67xw70x => (k_extra "my_units")); (case m1z67xw70x => k_mem); (case m2z67xw70x => k_mem); (case m3z67xw70x => k_mem))); (k_extra "my_backB")) | ((k_here; k_dflt (refine' ((check_B_ok ‹Pair _ _ true›) ?m1z68xw70x ?m2z68xw70x ?m3z68xw70x ?m4z68xw70x) _ _ _ _ _ _ _ _ _ _ _ _ _ _ _ _ _ _ _ _ _ _ _ _ _ ?k1z68xw70x ?k2z68xw70x ?k3z68xw70x ?k4z68xw70x ?k5z68xw70x ?k8z68xw70x ?k9z68xw70x ?kdz68xw70x ?kuz68xw70x ?_; (case k1z68xw70x => k_asm); (case k2z68xw70x => k_asm); (case k3z68xw70x => k_asm); (case k4z68xw70x => k_asm); (case k5z68xw70x => k_asm); (case k8z68xw70x => assumption); (case k9z68xw70x => assumption); (case kdz68xw70x => (k_extra "my_room")); (case kuz68xw70x => (k_extra "my_units")); (case m1z68xw70x => k_mem); (case m2z68xw70x => k_mem); (case m3z68xw70x => k_mem); (case m4z68xw70x => k_mem))); (k_extra "my_backB")) | ((k_here; k_dflt (refine' ((check_A_no ‹Pair _ _ false›) ?m1z69xw70x ?m2z69xw70x ?m3z69xw70x) _ _ _ _ _ _ _ _ _ _ _ _ _ _ _ _ _ _ _ _ _ _ _ _ _ ?k1z69xw70x ?k2z69xw70x ?k3z69xw70x ?k4z69xw70x ?k5z69xw70x ?k8z69xw70x ?k9z69xw70x ?kdz69xw70x ?kuz69xw70x ?_; (case k1z69xw70x => k_asm); (case k2z69xw70x => k_asm); (case k3z69xw70x => k_asm); (case k4z69xw70x => k_asm); (case k5z69xw70x => k_asm); (case k8z69xw70x => assumption); (case k9z69xw70x => assumption); (case kdz69xw70x => (k_extra "my_room")); (case kuz69xw70x => (k_extra "my_units")); (case m1z69xw70x => k_mem); (case m2z69xw70x => k_mem); (case m3z69xw70x => k_mem))); (k_extra "my_backE")) | ((k_here; k_dflt (refine' ((check_B_no ‹Pair _ _ false›) ?m1z70xw70x ?m2z70xw70x ?m3z70xw70x ?m4z70xw70x) _ _ _ _ _ _ _ _ _ _ _ _ _ _ _ _ _ _ _ _ _ _ _ _ _ ?k1z70xw70x ?k2z70xw70x ?k3z70xw70x ?k4z70xw70x ?k5z70xw70x ?k8z70xw70x ?k9z70xw70x ?kdz70xw70x ?kuz70xw70x ?_; (case k1z70xw70x => k_asm); (case k2z70xw70x => k_asm); (case k3z70xw70x => k_asm); (case k4z70xw70x => k_asm); (case k5z70xw70x => k_asm); (case k8z70xw70x => assumption); (case k9z70xw70x => assumption); (case kdz70xw70x => (k_extra "my_room")); (case kuz70xw70x => (k_extra "my_units")); (case m1z70xw70x => k_mem); (case m2z70xw70x => k_mem); (case m3z70xw70x => k_mem); (case m4z70xw70x => k_mem))); (k_extra "my_backE")))))
  trivial
section
variable {w : World} {all : List (Addr × Obj)} {c l t0 t1 t2 : Addr} {k k2 : Nat} {o0 o1 o2 o3 : Tok}
theorem hfc_A_ok {op : Str} {v : Value} (hp : Pair op v true) (hl : (l, PySem.W.listOf #[.none, .ref c, .none] k2) ∈ all) (hc : (c, PySem.W.listOf #[.ref t0, .ref t1] k) ∈ all) (h1 : (t1, tupO [.str "set" o1, .none]) ∈ all) (h0 : (t0, tupO [.str op o0, v]) ∈ all) :
    Call 30 w 488 [.ref l] all (fun Q E G R U s => ∀ v h' tk', G all h' → Q v { s with heap := h', toks := tk' }) := by
  intro p loose mean mg mb dp un gd cn cnm cg cc cmo a ccd cl outer A₀ base h₀ L m s Q E B F X N T XB TB hdp hu hret
  have N0 := news_lc N hl (news_lc N hc (news_lc N h1 (news_l1 N h0)))
  refine wpAny_call ?_
  k_dflt (k_extra "g_enter")
  (k_extra "t_steps3")
  exact hret _ _ _ (fin_all F N N0 (by assumption) (by assumption) (by k_asm) (by k_asm) (by (k_extra "my_keep")))
theorem hfc_A_no {op : Str} {v : Value} (hp : Pair op v false) (hl : (l, PySem.W.listOf #[.none, .ref c, .none] k2) ∈ all) (hc : (c, PySem.W.listOf #[.ref t0, .ref t1] k) ∈ all) (h1 : (t1, tupO [.str "set" o1, .none]) ∈ all) (h0 : (t0, tupO [.str op o0, v]) ∈ all) :
    Call 30 w 488 [.ref l] all (fun Q E G R U s => ∀ e h' tk', R e 62 h' → E (.ref e) { s with heap := h', toks := tk' }) := by
  intro p loose mean mg mb dp un gd cn cnm cg cc cmo a ccd cl outer A₀ base h₀ L m s Q E B F X N T XB TB hdp hu hret
  have N0 := news_lc N hl (news_lc N hc (news_lc N h1 (news_l1 N h0)))
  refine wpAny_call ?_
  k_dflt (k_extra "g_enter")
  (k_extra "t_steps3")
  refine leave_next (by k_asm) (by assumption) (by assumption) rfl (fun h' R => hret _ _ _ (raised_more F B N N0 rfl (by assumption) (Raised.drop R (by (k_extra "my_keep")))))
theorem hfc_B_ok {op : Str} {v : Value} (hp : Pair op v true) (hl : (l, PySem.W.listOf #[.none, .ref c, .none] k2) ∈ all) (hc : (c, PySem.W.listOf #[.ref t0, .ref t1, .ref t2] k) ∈ all) (h2 : (t2, tupO [.str "set" o2, .none]) ∈ all) (h1 : (t1, tupO [.str op o1, v]) ∈ all) (h0 : (t0, tupO [.str "jump" o0, .int 3 o3]) ∈ all) :
    Call 30 w 488 [.ref l] all (fun Q E G R U s => ∀ v h' tk', G all h' → Q v { s with heap := h', toks := tk' }) := by
  intro p loose mean mg mb dp un gd cn cnm cg cc cmo a ccd cl outer A₀ base h₀ L m s Q E B F X N T XB TB hdp hu hret
  have N0 := news_lc N hl (news_lc N hc (news_lc N h2 (news_lc N h1 (news_l1 N h0))))
  refine wpAny_call ?_
  k_dflt (k_extra "g_enter")
  (k_extra "t_steps3")
  exact hret _ _ _ (fin_all F N N0 (by assumption) (by assumption) (by k_asm) (by k_asm) (by (k_extra "my_keep")))
theorem hfc_B_no {op : Str} {v : Value} (hp : Pair op v false) (hl : (l, PySem.W.listOf #[.none, .ref c, .none] k2) ∈ all) (hc : (c, PySem.W.listOf #[.ref t0, .ref t1, .ref t2] k) ∈ all) (h2 : (t2, tupO [.str "set" o2, .none]) ∈ all) (h1 : (t1, tupO [.str op o1, v]) ∈ all) (h0 : (t0, tupO [.str "jump" o0, .int 3 o3]) ∈ all) :
    Call 30 w 488 [.ref l] all (fun Q E G R U s => ∀ e h' tk', R e 62 h' → E (.ref e) { s with heap := h', toks := tk' }) := by
  intro p loose mean mg mb dp un gd cn cnm cg cc cmo a ccd cl outer A₀ base h₀ L m s Q E B F X N T XB TB hdp hu hret
  have N0 := news_lc N hl (news_lc N hc (news_lc N h2 (news_lc N h1 (news_l1 N h0))))
  refine wpAny_call ?_
  k_dflt (k_extra "g_enter")
  (k_extra "t_steps3")
  refine leave_next (by k_asm) (by assumption) (by assumption) rfl (fun h' R => hret _ _ _ (raised_more F B N N0 rfl (by assumption) (Raised.drop R (by (k_extra "my_keep")))))
end
-- part C5
section
variable {prog : Program} {w : World} {A A₀ : Around} {s : Shared} {K : Frag} {L : Addr} {h₀ base : Heap} {m mg mb : Str → Option Value} {news : List (Addr × Obj)} {p : Program} {loose : List Str} {mean : ExcName → Option Value}
/-- a lambda of the ledger, called; its end told at the state itself -/
theorem lam_enterG {env : Env} {outer : List Env} {R : Result → Shared → Prop} {name qual : Str} {params : Arguments} {body : PySem.Expr} {scope : Scope} {cl : List (Str × Addr)} {pm ctv : Value} {c' : Addr} {f : Addr} {args : Args} {binds : List (Str × Value)}
    (B : Below A₀ base outer h₀) (F : Fr h₀ L s.heap m) (X₀ : K.In h₀) (N : News h₀ L s.heap news) (T : Top p loose mean mg mb h₀) (hA : A.frames = some (env :: outer)) (hf : env.frame = some L) (hke : env.scope.kind = .function)
    (ho : (f, kla_obj name qual params body scope cl pm c' ctv) ∈ news) (hcd : s.heap.CodeRec (.ref c') qual) (hroom : A.depth < recursionLimit)
    (hbind : bindArgs (kla_fn name qual params body scope cl pm (.ref c') ctv) args = pure binds) (hloc : ∀ y ∈ binds, scope.names.lookup y.1 = some .local)
    (h : ∀ g L' h₁, Fr h₀ L g m → Fr g L' h₁ (fun y => binds.reverse.lookup y) → News g L' h₁ news → Below A base (env :: outer) g → K.In g → Top p loose mean mg mb g → AllLt L' news → Ground s.heap news g →
      wpAny (model prog w) (A.deeper (envX qual scope L' f (.ref c') cl)) (eval body (envX qual scope L' f (.ref c') cl))
        (fun v s' => R (.ok (.ret v)) s')
        (fun e s' => wpAny (model prog w) (A.deeper (envX qual scope L' f (.ref c') cl)) (leaving (envX qual scope L' f (.ref c') cl) e) (fun _ s'' => R (.error e) s'') (fun e' s'' => R (.error e') s'') s')
        { s with heap := h₁, toks := s.toks + binds.length })
    (hco : scope.isCoroutine = false) (hgen : scope.isGenerator = false) (hk : scope.kind = .function)
    (hcell : ∀ x ∈ scope.names, x.2 ≠ .cell) : codeAny (model prog w) A (.call (.ref f) args) R s := by
  obtain ⟨FG, BG, st, -⟩ := groundX (R := R) B F N hA hf hke
  refine kla_callFunE hroom (N _ ho).1 rfl hco hgen rfl hcd ?_
  rw [hbind]
  refine wpAny_pure (wpAny_newFunctionEnv hcell hloc (fun h₁ hns hsb => ⟨((T.nolimit).keeps F.keep).fresh _ hsb, ?_⟩) hk)
  show codeAny _ _ (.expr body (envX qual scope s.heap.objs.size f (.ref c') cl)) _ _
  have hk₁ : ∀ b o, s.heap.get? b = some o → h₁.get? b = some o := fun b o e => hsb.extBut b o (Nat.ne_of_lt (Heap.lt_size e)) (Heap.get?_push_of_some _ e)
  exact kla_codeExpr (h _ s.heap.objs.size h₁ FG ⟨hns, fun b o e => hk₁ b o (of_hideAll _ e), Nat.le_of_eq (hideAll_size _ _)⟩
    (fun p hp => ⟨hk₁ _ _ (N p hp).1, Nat.ne_of_lt (Heap.lt_size (N p hp).1), hideAll_none _ (List.mem_map_of_mem hp)⟩) BG (X₀.keeps st) (T.keeps st) (allLt_of fun p hp => Heap.lt_size (N p hp).1)
    ⟨fun b o e hn => hideAll_get _ e hn, fun b o e => of_hideAll _ e⟩)
end
section
variable {w : World} {all : List (Addr × Obj)} {f : Addr}
theorem isl_ok (hfn : ∀ h₀ L h, News h₀ L h all → FnAt f h) (H : Call 35 w f [] all (fun Q E G R U s => ∀ v h' tk', G all h' → Q v { s with heap := h', toks := tk' })) :
    Call 40 w 516 [.ref f] all (fun Q E G R U s => ∀ h' tk', G all h' → Q (.bool true) { s with heap := h', toks := tk' }) := by
  intro p loose mean mg mb dp un gd cn cnm cg cc cmo a ccd cl outer A₀ base h₀ L m s Q E B F X N T XB TB hdp hu hret
  refine wpAny_call ?_
  k_dflt (k_extra "g_enter")
  (k_extra "t_steps3")
  refine callWith_F0 (hfn _ _ _ (by k_asm)) ?_
  dsimp only [List.nil_append]
  (k_here; k_dflt (refine' (H) _ _ _ _ _ _ _ _ _ _ _ _ _ _ _ _ _ _ _ _ _ _ _ _ _ ?k1z71x ?k2z71x ?k3z71x ?k4z71x ?k5z71x ?k8z71x ?k9z71x ?kdz71x ?kuz71x ?_; (case k1z71x => k_asm); (case k2z71x => k_asm); (case k3z71x => k_asm); (case k4z71x => k_asm); (case k5z71x => k_asm); (case k8z71x => assumption); (case k9z71x => assumption); (case kdz71x => (k_extra "my_room")); (case kuz71x => (k_extra "my_units"))))
  intro v1 h1 tk1 G1
  obtain ⟨F1, N1⟩ := G1
  try dsimp only
  (k_extra "t_steps3")
  exact hret _ _ (fin_all F N N (by assumption) (by assumption) (by k_asm) (by k_asm) (by (k_extra "my_keep")))
theorem isl_no (hfn : ∀ h₀ L h, News h₀ L h all → FnAt f h) (H : Call 35 w f [] all (fun Q E G R U s => ∀ e h' tk', R e 62 h' → E (.ref e) { s with heap := h', toks := tk' })) :
    Call 40 w 516 [.ref f] all (fun Q E G R U s => ∀ h' tk', U all h' → Q (.bool false) { s with heap := h', toks := tk' }) := by
  intro p loose mean mg mb dp un gd cn cnm cg cc cmo a ccd cl outer A₀ base h₀ L m s Q E B F X N T XB TB hdp hu hret
  refine wpAny_call ?_
  k_dflt (k_extra "g_enter")
  (k_extra "t_steps3")
  refine callWith_F0 (hfn _ _ _ (by k_asm)) ?_
  dsimp only [List.nil_append]
  (k_here; k_dflt (refine' (H) _ _ _ _ _ _ _ _ _ _ _ _ _ _ _ _ _ _ _ _ _ _ _ _ _ ?k1z72x ?k2z72x ?k3z72x ?k4z72x ?k5z72x ?k8z72x ?k9z72x ?kdz72x ?kuz72x ?_; (case k1z72x => k_asm); (case k2z72x => k_asm); (case k3z72x => k_asm); (case k4z72x => k_asm); (case k5z72x => k_asm); (case k8z72x => assumption); (case k9z72x => assumption); (case kdz72x => (k_extra "my_room")); (case kuz72x => (k_extra "my_units"))))
  intro e1 h1 tk1 G1
  obtain ⟨g1, FG1, R1⟩ := G1
  try dsimp only
  (k_extra "t_steps3")
  k_dflt (refine caught_own (bm0 := [.type "Exception", .type "BaseException", .type "object"]) (newId := "Exception.__new__") (Tb := 49) (fI := 39) R1 FG1 (by k_asm) XB TB (by kernel_rfl) (by decide) (by k_is) ?_)
  intro h2 g2 T2 F2 N2 B2 X2 P2
  (k_extra "t_steps3")
  k_dflt (exact hret _ _ (back_turned B (by assumption) rfl T2 (by k_asm) (by k_asm) XB TB))
/-- _law_is_let of a call that comes through just if d -/
theorem isl_d {d : Bool} (hfn : ∀ h₀ L h, News h₀ L h all → FnAt f h) (H1 : d = true → Call 35 w f [] all (fun Q E G R U s => ∀ v h' tk', G all h' → Q v { s with heap := h', toks := tk' }))
    (H0 : d = false → Call 35 w f [] all (fun Q E G R U s => ∀ e h' tk', R e 62 h' → E (.ref e) { s with heap := h', toks := tk' })) :
    Call 40 w 516 [.ref f] all (fun Q E G R U s => ∀ h' tk', U all h' → Q (.bool d) { s with heap := h', toks := tk' }) := by
  cases d with
  | true =>
    intro p loose mean mg mb dp un gd cn cnm cg cc cmo a ccd cl outer A₀ base h₀ L m s Q E B F X N T XB TB hdp hu hret
    exact isl_ok hfn (H1 rfl) p loose mean mg mb dp un gd cn cnm cg cc cmo a ccd cl outer A₀ base h₀ L m s Q E B F X N T XB TB hdp hu fun h' tk' G' => hret h' tk' ⟨h₀, KtsTurn.refl, G'.1, G'.2, B, X, T⟩
  | false => exact isl_no hfn (H0 rfl)
end
-- part C6
/-- a value and its text as repr or str say it -/
inductive Spoken : Value → Str → Prop
  | int (n : Int) (t : Tok) (hn : n.natAbs < 10 ^ 160) : Spoken (.int n t) (Str.ofString (toString n))
  | str (x : Str) (t : Tok) (hx : x.length ≤ 5000) (hl : PyData.layable0 (.str x) = true) : Spoken (.str x t) (reprText x)
theorem Spoken.len {v : Value} {S : Str} (h : Spoken v S) : S.length ≤ 60000 := by
  cases h with
  | int n t hn => rw [PySem.ofString_length]; exact Nat.le_trans (int_text_length_le10 (by decide) hn) (by decide)
  | str x t hx hl => have := len_repr_of_layable hl; omega
theorem lit_len0 : (Str.ofString "0 ").length = 2 := by decide
theorem lit_len1 : (Str.ofString "1 ").length = 2 := by decide
theorem lit_len2 : (Str.ofString "1 set").length = 5 := by decide
theorem lit_len3 : (Str.ofString "2 set").length = 5 := by decide
theorem lit_len4 : (Str.ofString " ").length = 1 := by decide
theorem lit_len5 : (Str.ofString "0 jump 3").length = 8 := by decide
section
variable {prog : Program} {w : World} {A : Around} {E : Value → Shared → Prop} {s : Shared} {h₀ h : Heap} {L : Addr} {m : Str → Option Value} {nw : List (Addr × Obj)} {c : Sem Value} {Q : Value → Shared → Prop} {g : Array GenState} {d : Drawn} {t : Nat} {o : OsState}
/-- an expression that gives a text, cut out of the walk -/
theorem cut_sp {v : Value} {S : Str} (hS : Spoken v S) (F : Fr h₀ L h m) (N : News h₀ L h nw) (e : s = ⟨h, g, d, t, o⟩)
    (h0 : ∀ (R : Value → Shared → Prop), (∀ t' h' tk', Fr h₀ L h' m → News h₀ L h' nw → R (.str (Str.ofString " " ++ S) t') ⟨h', g, d, tk', o⟩) → wpAny (model prog w) A c R E ⟨h, g, d, t, o⟩)
    (k : ∀ t' h' tk', Fr h₀ L h' m → News h₀ L h' nw → Q (.str (Str.ofString " " ++ S) t') ⟨h', g, d, tk', o⟩) : wpAny (model prog w) A c Q E s := e ▸ h0 Q k
end
theorem wd20 : True := by
  (k_with "my_join" => (k_here; refine join_listC (News.isList (by k_asm) (by k_mem)) (by kde_strs) (by decide) (by
        (have hS9w := Spoken.len ‹Spoken _ _›)
        (simp only [List.map, List.sum_cons, List.sum_nil, List.length_cons, List.length_nil, Str.length_append, lit_len0, lit_len1, lit_len2, lit_len3, lit_len4, lit_len5]; omega)) ?_; intro t9'w k9'w))
  (k_with "call builtin:str.join" => (k_extra "my_join"))
  (k_with "eval IfExp" => (k_here; (with_reducible show wpAny _ _ (eval (Expr.IfExp (Expr.Compare _ _ _ _) _ _ _) _) _ _ _); (rename Spoken _ _ => hS9w); (with_reducible rename Fr _ _ _ _ => fz9w); (with_reducible rename News _ _ _ _ => nz9w); with_reducible refine' cut_sp hS9w fz9w nz9w ?e9w75x ?h9w75x ?_; (case e9w75x => k_dflt (first | (dsimp only; done) | exact rfl)); (case h9w75x => (intro R9w hR9w; k_dflt (cases hS9w <;> ((k_extra "t_steps3"); exact hR9w _ _ _ (by k_asm) (by k_asm))))); intro t'w h'w tk'w F'w N'w; walk_say "CUT"))
  trivial
abbrev showA (op S : Str) : Str := Txt.join (Str.ofString "\n") [Str.ofString "0 " ++ op ++ (Str.ofString " " ++ S), Str.ofString "1 set"]
abbrev showB (op S : Str) : Str := Txt.join (Str.ofString "\n") [Str.ofString "0 jump 3", Str.ofString "1 " ++ op ++ (Str.ofString " " ++ S), Str.ofString "2 set"]
section
variable {w : World} {all : List (Addr × Obj)} {c l t0 t1 t2 : Addr} {k k2 : Nat} {o0 o1 o2 o3 : Tok}
theorem show_A {op S : Str} {v : Value} (hop : op.length ≤ 10) (hS : Spoken v S) (hc : (c, PySem.W.listOf #[.ref t0, .ref t1] k) ∈ all) (h1 : (t1, tupO [.str "set" o1, .none]) ∈ all) (h0 : (t0, tupO [.str op o0, v]) ∈ all) :
    Call 30 w 182 [.ref c] all (fun Q E G R U s => ∀ t h' tk', G all h' → Q (.str (showA op S) t) { s with heap := h', toks := tk' }) := by
  intro p loose mean mg mb dp un gd cn cnm cg cc cmo a ccd cl outer A₀ base h₀ L m s Q E B F X N T XB TB hdp hu hret
  have N0 := news_lc N hc (news_lc N h1 (news_l1 N h0))
  have hL := Spoken.len hS
  refine wpAny_call ?_
  k_dflt (k_extra "g_enter")
  (k_extra "t_steps3")
  exact hret _ _ _ (fin_all F N N0 (by assumption) (by assumption) (by k_asm) (by k_asm) (by (k_extra "my_keep")))
theorem show_B {op S : Str} {v : Value} (hop : op.length ≤ 10) (hS : Spoken v S) (hc : (c, PySem.W.listOf #[.ref t0, .ref t1, .ref t2] k) ∈ all) (h2 : (t2, tupO [.str "set" o2, .none]) ∈ all) (h1 : (t1, tupO [.str op o1, v]) ∈ all) (h0 : (t0, tupO [.str "jump" o0, .int 3 o3]) ∈ all) :
    Call 30 w 182 [.ref c] all (fun Q E G R U s => ∀ t h' tk', G all h' → Q (.str (showB op S) t) { s with heap := h', toks := tk' }) := by
  intro p loose mean mg mb dp un gd cn cnm cg cc cmo a ccd cl outer A₀ base h₀ L m s Q E B F X N T XB TB hdp hu hret
  have N0 := news_lc N hc (news_lc N h2 (news_lc N h1 (news_l1 N h0)))
  have hL := Spoken.len hS
  refine wpAny_call ?_
  k_dflt (k_extra "g_enter")
  (k_extra "t_steps3")
  exact hret _ _ _ (fin_all F N N0 (by assumption) (by assumption) (by k_asm) (by k_asm) (by (k_extra "my_keep")))
end
-- part V2
/-- a Frame's fields -/
abbrev frD (P : Params) (k0 k1 k2 k3 k4 k5 k6 k7 : Tok) (lv dn S : Addr) (own : Value) (n : Int) (tn tm : Tok) : Obj := dictOf [⟨PyData.keyHash P (Str.ofString "values"), .str (Str.ofString "values") k0, .ref lv⟩, ⟨PyData.keyHash P (Str.ofString "names"), .str (Str.ofString "names") k1, .ref dn⟩,
  ⟨PyData.keyHash P (Str.ofString "control"), .str (Str.ofString "control") k2, .none⟩, ⟨PyData.keyHash P (Str.ofString "own"), .str (Str.ofString "own") k3, own⟩, ⟨PyData.keyHash P (Str.ofString "stack"), .str (Str.ofString "stack") k4, .ref S⟩,
  ⟨PyData.keyHash P (Str.ofString "steps"), .str (Str.ofString "steps") k5, .int n tn⟩, ⟨PyData.keyHash P (Str.ofString "most"), .str (Str.ofString "most") k6, .int 9 tm⟩, ⟨PyData.keyHash P (Str.ofString "is_left"), .str (Str.ofString "is_left") k7, .bool false⟩] 8
/-- a Machine's fields -/
abbrev mcD (P : Params) (q tq : Tok) : Obj := dictOf [⟨PyData.keyHash P (Str.ofString "most"), .str (Str.ofString "most") q, .int 9 tq⟩] 1
section
variable {w : World} {rest : List (Addr × Obj)} {F d S lv dn dm : Addr} {k0 k1 k2 k3 k4 k5 k6 k7 tn tm : Tok} {own : Value} {n : Int} {k : Nat}
theorem need_ok {b : Bool} {x : Str} {tk : Tok} (hb : b = true) {news : List (Addr × Obj)} :
    Call 5 w 224 [.bool b, .str x tk] news (fun Q E G R U s => ∀ h' tk', G news h' → Q .none { s with heap := h', toks := tk' }) := by
  subst hb
  intro p loose mean mg mb dp un gd cn cnm cg cc cmo a ccd cl outer A₀ base h₀ L m s Q E B F X N T XB TB hdp hu hret
  refine wpAny_call ?_
  k_dflt k_enter
  (k_extra "t_steps3")
  exact hret _ _ ⟨by k_asm, by (k_extra "my_N")⟩
theorem wd21 : True := by
  (k_with "call ref" => ((with_reducible show wpAny _ _ (call (Value.ref 224) _) _ _ _); (k_here; k_dflt (refine' ((need_ok (by first | rfl | assumption | (simp; omega)))) _ _ _ _ _ _ _ _ _ _ _ _ _ _ _ _ _ _ _ _ _ _ _ _ _ ?k1z77xw77x ?k2z77xw77x ?k3z77xw77x ?k4z77xw77x ?k5z77xw77x ?k8z77xw77x ?k9z77xw77x ?kdz77xw77x ?kuz77xw77x ?_; (case k1z77xw77x => k_asm); (case k2z77xw77x => k_asm); (case k3z77xw77x => k_asm); (case k4z77xw77x => k_asm); (case k5z77xw77x => k_asm); (case k8z77xw77x => assumption); (case k9z77xw77x => assumption); (case kdz77xw77x => (k_extra "my_room")); (case kuz77xw77x => (k_extra "my_units")))); (k_extra "my_backB")))
  trivial
theorem count_c {oS : Obj} (hn : 0 ≤ n) (hn2 : n ≤ 8) (o1 : LCg.Off1 d ((F, instObj 374 d) :: rest)) (o0 : S ≠ d) :
    Call 12 w 343 [.ref F] ((S, oS) :: (d, frD w.params k0 k1 k2 k3 k4 k5 k6 k7 lv dn S own n tn tm) :: (F, instObj 374 d) :: rest) (fun Q E G R U s => ∀ h' tk' tn', G ((S, oS) :: (d, frD w.params k0 k1 k2 k3 k4 k5 k6 k7 lv dn S own (n + 1) tn' tm) :: (F, instObj 374 d) :: rest) h' → Q .none { s with heap := h', toks := tk' }) := by
  intro p loose mean mg mb dp un gd cn cnm cg cc cmo a ccd cl outer A₀ base h₀ L m s Q E B F X N T XB TB hdp hu hret
  obtain ⟨o2, o3⟩ := o1
  refine wpAny_call ?_
  k_dflt k_enter
  (k_extra "t_steps3")
  exact hret _ _ _ ⟨by k_asm, by (k_extra "my_N")⟩
theorem news_tl {h₀ h : Heap} {L : Addr} {l : List (Addr × Obj)} {a : Addr × Obj} (N : News h₀ L h (a :: l)) : News h₀ L h l := fun p hp => N p (.tail _ hp)
theorem push_c {v : Value} (o1 : LCg.Off1 S ((d, frD w.params k0 k1 k2 k3 k4 k5 k6 k7 lv dn S own n tn tm) :: (F, instObj 374 d) :: rest)) :
    Call 12 w 350 [.ref F, v] ((S, PySem.W.listOf #[] k) :: (d, frD w.params k0 k1 k2 k3 k4 k5 k6 k7 lv dn S own n tn tm) :: (F, instObj 374 d) :: rest) (fun Q E G R U s => ∀ h' tk' k', G ((S, PySem.W.listOf #[v] k') :: (d, frD w.params k0 k1 k2 k3 k4 k5 k6 k7 lv dn S own n tn tm) :: (F, instObj 374 d) :: rest) h' → Q .none { s with heap := h', toks := tk' }) := by
  intro p loose mean mg mb dp un gd cn cnm cg cc cmo a ccd cl outer A₀ base h₀ L m s Q E B F9 X N T XB TB hdp hu hret
  obtain ⟨x1, x2, x3⟩ := o1
  refine wpAny_call ?_
  k_dflt k_enter
  (k_extra "t_steps3")
  exact hret _ _ _ ⟨by k_asm, by (k_extra "my_N")⟩
theorem pop_c {v : Value} (o1 : LCg.Off1 S ((d, frD w.params k0 k1 k2 k3 k4 k5 k6 k7 lv dn S own n tn tm) :: (F, instObj 374 d) :: rest)) :
    Call 12 w 357 [.ref F] ((S, PySem.W.listOf #[v] k) :: (d, frD w.params k0 k1 k2 k3 k4 k5 k6 k7 lv dn S own n tn tm) :: (F, instObj 374 d) :: rest) (fun Q E G R U s => ∀ h' tk' k', G ((S, PySem.W.listOf #[] k') :: (d, frD w.params k0 k1 k2 k3 k4 k5 k6 k7 lv dn S own n tn tm) :: (F, instObj 374 d) :: rest) h' → Q v { s with heap := h', toks := tk' }) := by
  intro p loose mean mg mb dp un gd cn cnm cg cc cmo a ccd cl outer A₀ base h₀ L m s Q E B F9 X N T XB TB hdp hu hret
  obtain ⟨x1, x2, x3⟩ := o1
  refine wpAny_call ?_
  k_dflt k_enter
  (k_extra "t_steps3")
  exact hret _ _ _ ⟨by k_asm, by (k_extra "my_N")⟩
theorem wd22 : True := by
  (k_with "call ref" => ((with_reducible show wpAny _ _ (call (Value.ref 350) _) _ _ _); (k_here; k_dflt (refine' (push_c ?m1z79xw79x) _ _ _ _ _ _ _ _ _ _ _ _ _ _ _ _ _ _ _ _ _ _ _ _ _ ?k1z79xw79x ?k2z79xw79x ?k3z79xw79x ?k4z79xw79x ?k5z79xw79x ?k8z79xw79x ?k9z79xw79x ?kdz79xw79x ?kuz79xw79x ?_; (case k1z79xw79x => k_asm); (case k2z79xw79x => k_asm); (case k3z79xw79x => k_asm); (case k4z79xw79x => first | k_asm | exact news_tl (by k_asm) | exact news_tl (news_tl (by k_asm))); (case k5z79xw79x => k_asm); (case k8z79xw79x => assumption); (case k9z79xw79x => assumption); (case kdz79xw79x => (k_extra "my_room")); (case kuz79xw79x => (k_extra "my_units")); (case m1z79xw79x => assumption))); intro h'w tk'w k'w G'w; (obtain ⟨F'w, N'w⟩ := G'w); (try dsimp only); (try k_sweep)))
  (k_with "call ref" => ((with_reducible show wpAny _ _ (call (Value.ref 357) _) _ _ _); (k_here; k_dflt (refine' (pop_c ?m1z81xw81x) _ _ _ _ _ _ _ _ _ _ _ _ _ _ _ _ _ _ _ _ _ _ _ _ _ ?k1z81xw81x ?k2z81xw81x ?k3z81xw81x ?k4z81xw81x ?k5z81xw81x ?k8z81xw81x ?k9z81xw81x ?kdz81xw81x ?kuz81xw81x ?_; (case k1z81xw81x => k_asm); (case k2z81xw81x => k_asm); (case k3z81xw81x => k_asm); (case k4z81xw81x => first | k_asm | exact news_tl (by k_asm) | exact news_tl (news_tl (by k_asm))); (case k5z81xw81x => k_asm); (case k8z81xw81x => assumption); (case k9z81xw81x => assumption); (case kdz81xw81x => (k_extra "my_room")); (case kuz81xw81x => (k_extra "my_units")); (case m1z81xw81x => assumption))); intro h'w tk'w k'w G'w; (obtain ⟨F'w, N'w⟩ := G'w); (try dsimp only); (try k_sweep)))
  trivial
theorem step_push {v : Value} {M : Addr} {t : Tok} (o1 : LCg.Off1 S ((d, frD w.params k0 k1 k2 k3 k4 k5 k6 k7 lv dn S own n tn tm) :: (F, instObj 374 d) :: rest)) :
    Call 20 w 414 [.ref M, .ref F, .str "push" t, v] ((S, PySem.W.listOf #[] k) :: (d, frD w.params k0 k1 k2 k3 k4 k5 k6 k7 lv dn S own n tn tm) :: (F, instObj 374 d) :: rest) (fun Q E G R U s => ∀ h' tk' k', G ((S, PySem.W.listOf #[v] k') :: (d, frD w.params k0 k1 k2 k3 k4 k5 k6 k7 lv dn S own n tn tm) :: (F, instObj 374 d) :: rest) h' → Q .none { s with heap := h', toks := tk' }) := by
  intro p loose mean mg mb dp un gd cn cnm cg cc cmo a ccd cl outer A₀ base h₀ L m s Q E B F9 X N T XB TB hdp hu hret
  refine wpAny_call ?_
  k_dflt k_enter
  (k_extra "t_steps3")
  exact hret _ _ _ ⟨by k_asm, by (k_extra "my_N")⟩
theorem step_set {v : Value} {M : Addr} {t q tq : Tok} (o1 : LCg.Off1 S ((d, frD w.params k0 k1 k2 k3 k4 k5 k6 k7 lv dn S own n tn tm) :: (F, instObj 374 d) :: (M, instObj 450 dm) :: (dm, mcD w.params q tq) :: rest)) (o2 : LCg.Off1 d ((F, instObj 374 d) :: (M, instObj 450 dm) :: (dm, mcD w.params q tq) :: rest)) :
    Call 30 w 414 [.ref M, .ref F, .str "set" t, .none] ((S, PySem.W.listOf #[v] k) :: (d, frD w.params k0 k1 k2 k3 k4 k5 k6 k7 lv dn S own n tn tm) :: (F, instObj 374 d) :: (M, instObj 450 dm) :: (dm, mcD w.params q tq) :: rest) (fun Q E G R U s => ∀ h' tk' k', G ((S, PySem.W.listOf #[] k') :: (d, frD w.params k0 k1 k2 k3 k4 k5 k6 k7 lv dn S v n tn tm) :: (F, instObj 374 d) :: (M, instObj 450 dm) :: (dm, mcD w.params q tq) :: rest) h' → Q .none { s with heap := h', toks := tk' }) := by
  intro p loose mean mg mb dp un gd cn cnm cg cc cmo a ccd cl outer A₀ base h₀ L m s Q E B F9 X N T XB TB hdp hu hret
  obtain ⟨x4, x5, x6, x7⟩ := id o2
  obtain ⟨x1, x2, x3⟩ := id o1
  refine wpAny_call ?_
  k_dflt k_enter
  (k_extra "t_steps3")
  exact hret _ _ _ ⟨by k_asm, by (k_extra "my_N")⟩
end
-- part V3
/-- the values of the law, and the one behind $n -/
inductive ArgV (a1 : Tok) (a2 : Tok) (tp : Addr) : Int → Value → Prop
  | one : ArgV a1 a2 tp 1 (.int 7 a1)
  | two : ArgV a1 a2 tp 2 (.str "b" a2)
  | three : ArgV a1 a2 tp 3 (.ref tp)
section
variable {w : World} {all : List (Addr × Obj)} {c lv t0 t1 t2 tp : Addr} {k k2 kv : Nat} {o0 o1 o2 o3 a1 a2 : Tok}
theorem value_at_ok {n : Int} {t : Tok} {v : Value} (hv : ArgV a1 a2 tp n v) (hl : (lv, PySem.W.listOf #[.int 7 a1, .str "b" a2, .ref tp] kv) ∈ all) :
    Call 20 w 315 [.ref lv, .int n t] all (fun Q E G R U s => ∀ h' tk', G all h' → Q v { s with heap := h', toks := tk' }) := by
  intro p loose mean mg mb dp un gd cn cnm cg cc cmo a ccd cl outer A₀ base h₀ L m s Q E B F X N T XB TB hdp hu hret
  have N0 := news_l1 N hl
  refine wpAny_call ?_
  cases hv
  all_goals (
    k_dflt (k_extra "g_enter")
    (k_extra "t_steps3")
    exact hret _ _ (fin_all F N N0 (by assumption) (by assumption) (by k_asm) (by k_asm) (by (k_extra "my_keep"))))
theorem need_no {b : Bool} {x : Str} {tk : Tok} (hb : b = false) :
    Call 10 w 224 [.bool b, .str x tk] all (fun Q E G R U s => ∀ e h' tk', R e 74 h' → E (.ref e) { s with heap := h', toks := tk' }) := by
  subst hb
  intro p loose mean mg mb dp un gd cn cnm cg cc cmo a ccd cl outer A₀ base h₀ L m s Q E B F X N T XB TB hdp hu hret
  have N0 : News h₀ L s.heap [] := fun p hp => nomatch hp
  refine wpAny_call ?_
  k_dflt (k_extra "g_enter")
  (k_extra "t_steps3")
  refine leave_first (by k_asm) (by k_asm) (by k_asm) (by k_mem) ?hs rfl rfl (fun h' R => hret _ _ _ (raised_more F B N N0 rfl (by assumption) R))
  case hs => (k_extra "my_sub")
theorem wd23 : True := by
  (k_with "call ref" => ((with_reducible show wpAny _ _ (call (Value.ref 224) _) _ _ _); first | ((k_here; k_dflt (refine' ((need_ok (by first | rfl | assumption | (simp; omega)))) _ _ _ _ _ _ _ _ _ _ _ _ _ _ _ _ _ _ _ _ _ _ _ _ _ ?k1z83xw84x ?k2z83xw84x ?k3z83xw84x ?k4z83xw84x ?k5z83xw84x ?k8z83xw84x ?k9z83xw84x ?kdz83xw84x ?kuz83xw84x ?_; (case k1z83xw84x => k_asm); (case k2z83xw84x => k_asm); (case k3z83xw84x => k_asm); (case k4z83xw84x => k_asm); (case k5z83xw84x => k_asm); (case k8z83xw84x => assumption); (case k9z83xw84x => assumption); (case kdz83xw84x => (k_extra "my_room")); (case kuz83xw84x => (k_extra "my_units")))); (k_extra "my_backB")) | ((k_here; k_dflt (refine' ((need_no (by first | rfl | (simp; omega)))) _ _ _ _ _ _ _ _ _ _ _ _ _ _ _ _ _ _ _ _ _ _ _ _ _ ?k1z84xw84x ?k2z84xw84x ?k3z84xw84x ?k4z84xw84x ?k5z84xw84x ?k8z84xw84x ?k9z84xw84x ?kdz84xw84x ?kuz84xw84x ?_; (case k1z84xw84x => k_asm); (case k2z84xw84x => k_asm); (case k3z84xw84x => k_asm); (case k4z84xw84x => k_asm); (case k5z84xw84x => k_asm); (case k8z84xw84x => assumption); (case k9z84xw84x => assumption); (case kdz84xw84x => (k_extra "my_room")); (case kuz84xw84x => (k_extra "my_units")))); (k_extra "my_backE"))))
  trivial
theorem value_at_no {n : Int} {t : Tok} (hn : 4 ≤ n) (hn2 : n.natAbs < 10 ^ 160) (hl : (lv, PySem.W.listOf #[.int 7 a1, .str "b" a2, .ref tp] kv) ∈ all) :
    Call 20 w 315 [.ref lv, .int n t] all (fun Q E G R U s => ∀ e h' tk', R e 74 h' → E (.ref e) { s with heap := h', toks := tk' }) := by
  intro p loose mean mg mb dp un gd cn cnm cg cc cmo a ccd cl outer A₀ base h₀ L m s Q E B F X N T XB TB hdp hu hret
  have N0 := news_l1 N hl
  refine wpAny_call ?_
  k_dflt (k_extra "g_enter")
  (k_extra "t_steps3")

  refine leave_next (by k_asm) (by assumption) (by assumption) rfl (fun h' R => hret _ _ _ (raised_more F B N N0 rfl (by assumption) (Raised.drop R (by (k_extra "my_keep")))))
end
-- part V4
theorem wd24 : True := by
  (k_with "call ref" => ((with_reducible show wpAny _ _ (call (Value.ref 315) _) _ _ _); (first | ((k_here; k_dflt (refine' ((value_at_ok ‹ArgV _ _ _ _ _›) ?m1z86xw87x) _ _ _ _ _ _ _ _ _ _ _ _ _ _ _ _ _ _ _ _ _ _ _ _ _ ?k1z86xw87x ?k2z86xw87x ?k3z86xw87x ?k4z86xw87x ?k5z86xw87x ?k8z86xw87x ?k9z86xw87x ?kdz86xw87x ?kuz86xw87x ?_; (case k1z86xw87x => k_asm); (case k2z86xw87x => k_asm); (case k3z86xw87x => k_asm); (case k4z86xw87x => k_asm); (case k5z86xw87x => k_asm); (case k8z86xw87x => assumption); (case k9z86xw87x => assumption); (case kdz86xw87x => (k_extra "my_room")); (case kuz86xw87x => (k_extra "my_units")); (case m1z86xw87x => k_mem))); (k_extra "my_backB")) | ((k_here; k_dflt (refine' ((value_at_no ‹(4 : Int) ≤ _› ‹Int.natAbs _ < _›) ?m1z87xw87x) _ _ _ _ _ _ _ _ _ _ _ _ _ _ _ _ _ _ _ _ _ _ _ _ _ ?k1z87xw87x ?k2z87xw87x ?k3z87xw87x ?k4z87xw87x ?k5z87xw87x ?k8z87xw87x ?k9z87xw87x ?kdz87xw87x ?kuz87xw87x ?_; (case k1z87xw87x => k_asm); (case k2z87xw87x => k_asm); (case k3z87xw87x => k_asm); (case k4z87xw87x => k_asm); (case k5z87xw87x => k_asm); (case k8z87xw87x => assumption); (case k9z87xw87x => assumption); (case kdz87xw87x => (k_extra "my_room")); (case kuz87xw87x => (k_extra "my_units")); (case m1z87xw87x => k_mem))); (k_extra "my_backE")))))
  trivial
section
variable {w : World} {all rest : List (Addr × Obj)} {c F d S lv dn dm tp M t0 t1 t2 : Addr} {k0 k1 k2 k3 k4 k5 k6 k7 tn tm t q tq a1 a2 o0 o1 o2 o3 : Tok} {own : Value} {n z : Int} {k kv kc : Nat}
abbrev valO (a1 a2 : Tok) (tp : Addr) (kv : Nat) : Obj := PySem.W.listOf #[.int 7 a1, .str "b" a2, .ref tp] kv
theorem step_arg {x1 x2 : Addr × Obj} {v : Value} (hv : ArgV a1 a2 tp z v) (o1 : LCg.Off1 S ((d, frD w.params k0 k1 k2 k3 k4 k5 k6 k7 lv dn S own n tn tm) :: (F, instObj 374 d) :: x1 :: x2 :: (lv, valO a1 a2 tp kv) :: rest)) :
    Call 30 w 414 [.ref M, .ref F, .str "arg" t, .int z q] ((S, PySem.W.listOf #[] k) :: (d, frD w.params k0 k1 k2 k3 k4 k5 k6 k7 lv dn S own n tn tm) :: (F, instObj 374 d) :: x1 :: x2 :: (lv, valO a1 a2 tp kv) :: rest) (fun Q E G R U s => ∀ h' tk' k', G ((S, PySem.W.listOf #[v] k') :: (d, frD w.params k0 k1 k2 k3 k4 k5 k6 k7 lv dn S own n tn tm) :: (F, instObj 374 d) :: x1 :: x2 :: (lv, valO a1 a2 tp kv) :: rest) h' → Q .none { s with heap := h', toks := tk' }) := by
  intro p loose mean mg mb dp un gd cn cnm cg cc cmo a ccd cl outer A₀ base h₀ L m s Q E B F9 X N T XB TB hdp hu hret
  refine wpAny_call ?_
  k_dflt k_enter
  (k_extra "t_steps3")
  exact hret _ _ _ ⟨by k_asm, by (k_extra "my_N")⟩
theorem step_arg_no {S0 : Obj} (hn : 4 ≤ z) (hn2 : z.natAbs < 10 ^ 160) (hl : (lv, valO a1 a2 tp kv) ∈ all) (hF : (F, instObj 374 d) ∈ all) (hd : (d, frD w.params k0 k1 k2 k3 k4 k5 k6 k7 lv dn S own n tn tm) ∈ all) :
    Call 30 w 414 [.ref M, .ref F, .str "arg" t, .int z q] all (fun Q E G R U s => ∀ e h' tk', R e 74 h' → E (.ref e) { s with heap := h', toks := tk' }) := by
  intro p loose mean mg mb dp un gd cn cnm cg cc cmo a ccd cl outer A₀ base h₀ L m s Q E B F9 X N T XB TB hdp hu hret
  have N0 := news_lc N hl (news_lc N hF (news_l1 N hd))
  refine wpAny_call ?_
  k_dflt (k_extra "g_enter")
  (k_extra "t_steps3")
  refine leave_next (by k_asm) (by assumption) (by assumption) rfl (fun h' R => hret _ _ _ (raised_more F9 B N N0 rfl (by assumption) (Raised.drop R (by (k_extra "my_keep")))))
end
-- part V5
theorem wd25 : True := by
  (k_with "call ref" => ((with_reducible show wpAny _ _ (call (Value.ref 343) _) _ _ _); k_dflt (refine' (count_c ?m1w88x ?m2w88x ?m3w88x ?m4w88x) _ _ _ _ _ _ _ _ _ _ _ _ _ _ _ _ _ _ _ _ _ _ _ _ _ ?k1w88x ?k2w88x ?k3w88x ?k4w88x ?k5w88x ?k8w88x ?k9w88x ?kdw88x ?kuw88x ?_; (case k1w88x => k_asm); (case k2w88x => k_asm); (case k3w88x => k_asm); (case k4w88x => first | k_asm | exact news_tl (by k_asm) | exact news_tl (news_tl (by k_asm))); (case k5w88x => k_asm); (case k8w88x => assumption); (case k9w88x => assumption); (case kdw88x => (k_extra "my_room")); (case kuw88x => (k_extra "my_units")); (case m1w88x => omega); (case m2w88x => omega); (case m3w88x => assumption); (case m4w88x => assumption)); intro h'w tk'w tn'w G'w; (obtain ⟨F'w, N'w⟩ := G'w); (try dsimp only); (try k_sweep)))
  trivial
section
variable {w : World} {all rest : List (Addr × Obj)} {c F d S lv dn dm tp M t0 t1 t2 : Addr} {k0 k1 k2 k3 k4 k5 k6 k7 tn tm t q tq a1 a2 o0 o1 o2 o3 : Tok} {own : Value} {n z : Int} {k kv kc : Nat}
theorem allLt_mono {a b : Nat} {l : List (Addr × Obj)} (h : AllLt a l) (k : a < b) : AllLt b l := by
  induction l with
  | nil => trivial
  | cons x r ih => exact ⟨Nat.lt_trans h.1 k, ih h.2⟩
theorem frame_new {t : Tok} :
    Call 20 w 374 [.ref lv, .ref dn, .none, own, .int 9 tm] all (fun Q E G R U s => ∀ F d S h' tk' k0 k1 k2 k3 k4 k5 k6 k7 tn, G ((S, PySem.W.listOf #[] 0) :: (d, frD w.params k0 k1 k2 k3 k4 k5 k6 k7 lv dn S own 0 tn tm) :: (F, instObj 374 d) :: all) h' →
      LCg.Off1 S ((d, frD w.params k0 k1 k2 k3 k4 k5 k6 k7 lv dn S own 0 tn tm) :: (F, instObj 374 d) :: all) → LCg.Off1 d ((F, instObj 374 d) :: all) → LCg.Off1 F all → Q (.ref F) { s with heap := h', toks := tk' }) := by
  intro p loose mean mg mb dp un gd cn cnm cg cc cmo a ccd cl outer A₀ base h₀ L m s Q E B F9 X N T XB TB hdp hu hret
  (k_extra "t_steps3")
  have l9 := ‹_ ∧ _ ∧ AllLt _ all›
  have a9 := allLt_of ‹∀ p ∈ all, p.1 < _›
  refine hret _ _ _ _ _ _ _ _ _ _ _ _ _ _ ⟨by k_asm, cb_drop (by assumption) (by (k_extra "my_keep"))⟩ ⟨Nat.ne_of_lt l9.2.1, Nat.ne_of_lt l9.1, off1_of_lt l9.2.2⟩ ⟨Ne.symm (Nat.ne_of_lt (by assumption)), off1_of_lt a9⟩ (off1_of_lt (allLt_mono a9 (by assumption)))
end
-- part V6
theorem wd26 : True := by
  (k_with "call ref" => ((with_reducible show wpAny _ _ (call (Value.ref 374) _) _ _ _); (k_here; k_dflt (refine' ((frame_new (t := 0))) _ _ _ _ _ _ _ _ _ _ _ _ _ _ _ _ _ _ _ _ _ _ _ _ _ ?k1z90xw90x ?k2z90xw90x ?k3z90xw90x ?k4z90xw90x ?k5z90xw90x ?k8z90xw90x ?k9z90xw90x ?kdz90xw90x ?kuz90xw90x ?_; (case k1z90xw90x => k_asm); (case k2z90xw90x => k_asm); (case k3z90xw90x => k_asm); (case k4z90xw90x => k_asm); (case k5z90xw90x => k_asm); (case k8z90xw90x => assumption); (case k9z90xw90x => assumption); (case kdz90xw90x => (k_extra "my_room")); (case kuz90xw90x => (k_extra "my_units")))); intro F'w d'w S'w h'w tk'w k0'w k1'w k2'w k3'w k4'w k5'w k6'w k7'w tn'w G'w o1'w o2'w o3'w; k_dflt (have o4'w := Ne.symm o1'w.1); (obtain ⟨F'w, N'w⟩ := G'w); (try dsimp only); (try k_sweep)))
  (k_with "mine k_handed" => assumption)
  (k_with "my_backF" => (intro h'w tk'w k'w G'w; (obtain ⟨F'w, N'w⟩ := G'w); (try dsimp only); (try k_sweep)))
  (k_with "call ref" => ((with_reducible show wpAny _ _ (call (Value.ref 414) _) _ _ _); first
      | ((with_reducible show wpAny _ _ (call _ [_, _, Value.str (Str.ofString "push") _, _]) _ _ _); (k_here; k_dflt (refine' (step_push ?m1z94xw96x) _ _ _ _ _ _ _ _ _ _ _ _ _ _ _ _ _ _ _ _ _ _ _ _ _ ?k1z94xw96x ?k2z94xw96x ?k3z94xw96x ?k4z94xw96x ?k5z94xw96x ?k8z94xw96x ?k9z94xw96x ?kdz94xw96x ?kuz94xw96x ?_; (case k1z94xw96x => k_asm); (case k2z94xw96x => k_asm); (case k3z94xw96x => k_asm); (case k4z94xw96x => first | k_asm | exact news_tl (by k_asm) | exact news_tl (news_tl (by k_asm))); (case k5z94xw96x => k_asm); (case k8z94xw96x => assumption); (case k9z94xw96x => assumption); (case kdz94xw96x => (k_extra "my_room")); (case kuz94xw96x => (k_extra "my_units")); (case m1z94xw96x => assumption))); (k_extra "my_backF"))
      | ((with_reducible show wpAny _ _ (call _ [_, _, Value.str (Str.ofString "arg") _, _]) _ _ _); (k_here; k_dflt (refine' ((step_arg ‹ArgV _ _ _ _ _›) ?m1z95xw96x) _ _ _ _ _ _ _ _ _ _ _ _ _ _ _ _ _ _ _ _ _ _ _ _ _ ?k1z95xw96x ?k2z95xw96x ?k3z95xw96x ?k4z95xw96x ?k5z95xw96x ?k8z95xw96x ?k9z95xw96x ?kdz95xw96x ?kuz95xw96x ?_; (case k1z95xw96x => k_asm); (case k2z95xw96x => k_asm); (case k3z95xw96x => k_asm); (case k4z95xw96x => first | k_asm | exact news_tl (by k_asm) | exact news_tl (news_tl (by k_asm))); (case k5z95xw96x => k_asm); (case k8z95xw96x => assumption); (case k9z95xw96x => assumption); (case kdz95xw96x => (k_extra "my_room")); (case kuz95xw96x => (k_extra "my_units")); (case m1z95xw96x => assumption))); (k_extra "my_backF"))
      | ((with_reducible show wpAny _ _ (call _ [_, _, Value.str (Str.ofString "set") _, _]) _ _ _); (k_here; k_dflt (refine' (step_set ?m1z96xw96x ?m2z96xw96x) _ _ _ _ _ _ _ _ _ _ _ _ _ _ _ _ _ _ _ _ _ _ _ _ _ ?k1z96xw96x ?k2z96xw96x ?k3z96xw96x ?k4z96xw96x ?k5z96xw96x ?k8z96xw96x ?k9z96xw96x ?kdz96xw96x ?kuz96xw96x ?_; (case k1z96xw96x => k_asm); (case k2z96xw96x => k_asm); (case k3z96xw96x => k_asm); (case k4z96xw96x => first | k_asm | exact news_tl (by k_asm) | exact news_tl (news_tl (by k_asm))); (case k5z96xw96x => k_asm); (case k8z96xw96x => assumption); (case k9z96xw96x => assumption); (case kdz96xw96x => (k_extra "my_room")); (case kuz96xw96x => (k_extra "my_units")); (case m1z96xw96x => assumption); (case m2z96xw96x => assumption))); (k_extra "my_backF"))))
  trivial
section
variable {w : World} {all rest : List (Addr × Obj)} {c F d S lv dn dm tp M t0 t1 t2 : Addr} {k0 k1 k2 k3 k4 k5 k6 k7 tn tm t q tq a1 a2 o0 o1 o2 o3 : Tok} {own : Value} {n z : Int} {k kv kc : Nat}
theorem run_push {v : Value} (hv : handedIn v = true) (hM : (M, instObj 450 dm) ∈ all) (hdm : (dm, mcD w.params q tq) ∈ all) (hc : (c, PySem.W.listOf #[.ref t0, .ref t1] kc) ∈ all) (h1 : (t1, tupO [.str "set" o1, .none]) ∈ all) (h0 : (t0, tupO [.str "push" o0, v]) ∈ all) :
    Call 40 w 400 [.ref M, .ref c, .ref lv, .ref dn, .none, .str "own" t] all (fun Q E G R U s => ∀ h' tk', G all h' → Q v { s with heap := h', toks := tk' }) := by
  intro p loose mean mg mb dp un gd cn cnm cg cc cmo a ccd cl outer A₀ base h₀ L m s Q E B F9 X N T XB TB hdp hu hret
  have N0 := news_lc N hM (news_lc N hdm (news_lc N hc (news_lc N h1 (news_l1 N h0))))
  refine wpAny_call ?_
  k_dflt (k_extra "g_enter")
  (k_extra "t_steps3")
  k_dflt (exact hret _ _ (fin_all F9 N N0 (by assumption) (by assumption) (by k_asm) (by k_asm) (by (k_extra "my_keep"))))
theorem run_arg {v : Value} {z : Int} (hz : ArgV a1 a2 tp z v) (hv : handedIn v = true) (hl : (lv, valO a1 a2 tp kv) ∈ all) (hM : (M, instObj 450 dm) ∈ all) (hdm : (dm, mcD w.params q tq) ∈ all) (hc : (c, PySem.W.listOf #[.ref t0, .ref t1] kc) ∈ all) (h1 : (t1, tupO [.str "set" o1, .none]) ∈ all) (h0 : (t0, tupO [.str "arg" o0, .int z o2]) ∈ all) :
    Call 40 w 400 [.ref M, .ref c, .ref lv, .ref dn, .none, .str "own" t] all (fun Q E G R U s => ∀ h' tk', G all h' → Q v { s with heap := h', toks := tk' }) := by
  intro p loose mean mg mb dp un gd cn cnm cg cc cmo a ccd cl outer A₀ base h₀ L m s Q E B F9 X N T XB TB hdp hu hret
  have N0 := news_lc N hM (news_lc N hdm (news_lc N hl (news_lc N hc (news_lc N h1 (news_l1 N h0)))))
  refine wpAny_call ?_
  k_dflt (k_extra "g_enter")
  (k_extra "t_steps3")
  k_dflt (exact hret _ _ (fin_all F9 N N0 (by assumption) (by assumption) (by k_asm) (by k_asm) (by (k_extra "my_keep"))))
end
-- part V7
theorem wd27 : True := by
  (k_with "call ref" => ((with_reducible show wpAny _ _ (call (Value.ref 414) [_, _, Value.str (Str.ofString "arg") _, _]) _ _ _); k_dflt (refine' (step_arg_no (S0 := default) ‹(4 : Int) ≤ _› ‹Int.natAbs _ < _› ?m1w97x ?m2w97x ?m3w97x) _ _ _ _ _ _ _ _ _ _ _ _ _ _ _ _ _ _ _ _ _ _ _ _ _ ?k1w97x ?k2w97x ?k3w97x ?k4w97x ?k5w97x ?k8w97x ?k9w97x ?kdw97x ?kuw97x ?_; (case k1w97x => k_asm); (case k2w97x => k_asm); (case k3w97x => k_asm); (case k4w97x => k_asm); (case k5w97x => k_asm); (case k8w97x => assumption); (case k9w97x => assumption); (case kdw97x => (k_extra "my_room")); (case kuw97x => (k_extra "my_units")); (case m1w97x => k_mem); (case m2w97x => k_mem); (case m3w97x => k_mem)); (k_extra "my_backE")))
  trivial
section
variable {w : World} {all rest : List (Addr × Obj)} {c F d S lv dn dm tp M t0 t1 t2 : Addr} {k0 k1 k2 k3 k4 k5 k6 k7 tn tm t q tq a1 a2 o0 o1 o2 o3 : Tok} {own : Value} {n z : Int} {k kv kc : Nat}
theorem run_around (hM : (M, instObj 450 dm) ∈ all) (hdm : (dm, mcD w.params q tq) ∈ all) (hc : (c, PySem.W.listOf #[.ref t0, .ref t1, .ref t2] kc) ∈ all) (h0 : (t0, tupO [.str "jump" o0, .int 3 o3]) ∈ all) :
    Call 40 w 400 [.ref M, .ref c, .ref lv, .ref dn, .none, .str "own" t] all (fun Q E G R U s => ∀ h' tk', G all h' → Q (.str "own" t) { s with heap := h', toks := tk' }) := by
  intro p loose mean mg mb dp un gd cn cnm cg cc cmo a ccd cl outer A₀ base h₀ L m s Q E B F9 X N T XB TB hdp hu hret
  have N0 := news_lc N hM (news_lc N hdm (news_lc N hc (news_l1 N h0)))
  refine wpAny_call ?_
  k_dflt (k_extra "g_enter")
  (k_extra "t_steps3")
  k_dflt (exact hret _ _ (fin_all F9 N N0 (by assumption) (by assumption) (by k_asm) (by k_asm) (by (k_extra "my_keep"))))
theorem run_no (hz : 4 ≤ z) (hz2 : z.natAbs < 10 ^ 160) (hl : (lv, valO a1 a2 tp kv) ∈ all) (hM : (M, instObj 450 dm) ∈ all) (hdm : (dm, mcD w.params q tq) ∈ all) (hc : (c, PySem.W.listOf #[.ref t0, .ref t1] kc) ∈ all) (h0 : (t0, tupO [.str "arg" o0, .int z o2]) ∈ all) :
    Call 40 w 400 [.ref M, .ref c, .ref lv, .ref dn, .none, .str "own" t] all (fun Q E G R U s => ∀ e h' tk', R e 74 h' → E (.ref e) { s with heap := h', toks := tk' }) := by
  intro p loose mean mg mb dp un gd cn cnm cg cc cmo a ccd cl outer A₀ base h₀ L m s Q E B F9 X N T XB TB hdp hu hret
  have N0 := news_lc N hM (news_lc N hdm (news_lc N hl (news_lc N hc (news_l1 N h0))))
  refine wpAny_call ?_
  k_dflt (k_extra "g_enter")
  (k_extra "t_steps3")
  refine leave_next (by k_asm) (by assumption) (by assumption) rfl (fun h' R => hret _ _ _ (raised_more F9 B N N0 rfl (by assumption) (Raised.drop R (by (k_extra "my_keep")))))
end
-- part V8
theorem wd28 : True := by
  (k_with "call ref" => (k_here; (with_reducible show wpAny _ _ (call (Value.ref 400) _) _ _ _); first
      | (k_dflt (((k_dflt (refine' (run_push (by assumption) ?m1w102x ?m2w102x ?m3w102x ?m4w102x ?m5w102x) _ _ _ _ _ _ _ _ _ _ _ _ _ _ _ _ _ _ _ _ _ _ _ _ _ ?k1z99xw102x ?k2z99xw102x ?k3z99xw102x ?k4z99xw102x ?k5z99xw102x ?k8z99xw102x ?k9z99xw102x ?kdz99xw102x ?kuz99xw102x ?_; (case k1z99xw102x => k_asm); (case k2z99xw102x => k_asm); (case k3z99xw102x => k_asm); (case k4z99xw102x => k_asm); (case k5z99xw102x => k_asm); (case k8z99xw102x => assumption); (case k9z99xw102x => assumption); (case kdz99xw102x => (k_extra "my_room")); (case kuz99xw102x => (k_extra "my_units"))))); (case m1w102x => k_mem); (case m2w102x => k_mem); (case m3w102x => k_mem); (case m4w102x => k_mem); (case m5w102x => k_mem)); (k_extra "my_backB"))
      | (k_dflt (((k_dflt (refine' (run_arg ‹ArgV _ _ _ _ _› (by assumption) ?m1w102x ?m2w102x ?m3w102x ?m4w102x ?m5w102x ?m6w102x) _ _ _ _ _ _ _ _ _ _ _ _ _ _ _ _ _ _ _ _ _ _ _ _ _ ?k1z100xw102x ?k2z100xw102x ?k3z100xw102x ?k4z100xw102x ?k5z100xw102x ?k8z100xw102x ?k9z100xw102x ?kdz100xw102x ?kuz100xw102x ?_; (case k1z100xw102x => k_asm); (case k2z100xw102x => k_asm); (case k3z100xw102x => k_asm); (case k4z100xw102x => k_asm); (case k5z100xw102x => k_asm); (case k8z100xw102x => assumption); (case k9z100xw102x => assumption); (case kdz100xw102x => (k_extra "my_room")); (case kuz100xw102x => (k_extra "my_units"))))); (case m1w102x => k_mem); (case m2w102x => k_mem); (case m3w102x => k_mem); (case m4w102x => k_mem); (case m5w102x => k_mem); (case m6w102x => k_mem)); (k_extra "my_backB"))
      | (k_dflt (((k_dflt (refine' (run_no ‹(4 : Int) ≤ _› ‹Int.natAbs _ < _› ?m1w102x ?m2w102x ?m3w102x ?m4w102x ?m5w102x) _ _ _ _ _ _ _ _ _ _ _ _ _ _ _ _ _ _ _ _ _ _ _ _ _ ?k1z101xw102x ?k2z101xw102x ?k3z101xw102x ?k4z101xw102x ?k5z101xw102x ?k8z101xw102x ?k9z101xw102x ?kdz101xw102x ?kuz101xw102x ?_; (case k1z101xw102x => k_asm); (case k2z101xw102x => k_asm); (case k3z101xw102x => k_asm); (case k4z101xw102x => k_asm); (case k5z101xw102x => k_asm); (case k8z101xw102x => assumption); (case k9z101xw102x => assumption); (case kdz101xw102x => (k_extra "my_room")); (case kuz101xw102x => (k_extra "my_units"))))); (case m1w102x => k_mem); (case m2w102x => k_mem); (case m3w102x => k_mem); (case m4w102x => k_mem); (case m5w102x => k_mem)); (k_extra "my_backE"))
      | (k_dflt (((k_dflt (refine' (run_around ?m1w102x ?m2w102x ?m3w102x ?m4w102x) _ _ _ _ _ _ _ _ _ _ _ _ _ _ _ _ _ _ _ _ _ _ _ _ _ ?k1z102xw102x ?k2z102xw102x ?k3z102xw102x ?k4z102xw102x ?k5z102xw102x ?k8z102xw102x ?k9z102xw102x ?kdz102xw102x ?kuz102xw102x ?_; (case k1z102xw102x => k_asm); (case k2z102xw102x => k_asm); (case k3z102xw102x => k_asm); (case k4z102xw102x => k_asm); (case k5z102xw102x => k_asm); (case k8z102xw102x => assumption); (case k9z102xw102x => assumption); (case kdz102xw102x => (k_extra "my_room")); (case kuz102xw102x => (k_extra "my_units"))))); (case m1w102x => k_mem); (case m2w102x => k_mem); (case m3w102x => k_mem); (case m4w102x => k_mem)); (k_extra "my_backB"))))
  trivial
section
variable {w : World} {all : List (Addr × Obj)} {c lv t0 t1 t2 tp : Addr} {k k2 kv : Nat} {o0 o1 o2 o3 a1 a2 : Tok}
theorem heard_push {v : Value} (hv : handedIn v = true) (hc : (c, PySem.W.listOf #[.ref t0, .ref t1] k) ∈ all) (h1 : (t1, tupO [.str "set" o1, .none]) ∈ all) (h0 : (t0, tupO [.str "push" o0, v]) ∈ all) :
    Call 60 w 523 [.ref c, .ref lv] all (fun Q E G R U s => ∀ D h' tk' k', G ((D, PySem.W.listOf #[v] k') :: all) h' → LCg.Off1 D all → Q (.ref D) { s with heap := h', toks := tk' }) := by
  intro p loose mean mg mb dp un gd cn cnm cg cc cmo a ccd cl outer A₀ base h₀ L m s Q E B F X N T XB TB hdp hu hret
  have N0 := news_lc N hc (news_lc N h1 (news_l1 N h0))
  refine wpAny_call ?_
  k_dflt (k_extra "g_enter")
  (k_extra "t_steps3")
  k_dflt (exact hret _ _ _ _ (fin_new F N N0 (by assumption) (by assumption) (by k_asm) (by k_asm) (by (k_extra "my_keep")) (by k_mem)) (off_more N (by assumption) (by assumption) (by k_mem) (by (k_extra "my_nes"))))
theorem heard_around (hc : (c, PySem.W.listOf #[.ref t0, .ref t1, .ref t2] k) ∈ all) (h0 : (t0, tupO [.str "jump" o0, .int 3 o3]) ∈ all) :
    Call 60 w 523 [.ref c, .ref lv] all (fun Q E G R U s => ∀ D h' tk' k' t', G ((D, PySem.W.listOf #[.str "own" t'] k') :: all) h' → LCg.Off1 D all → Q (.ref D) { s with heap := h', toks := tk' }) := by
  intro p loose mean mg mb dp un gd cn cnm cg cc cmo a ccd cl outer A₀ base h₀ L m s Q E B F X N T XB TB hdp hu hret
  have N0 := news_lc N hc (news_l1 N h0)
  refine wpAny_call ?_
  k_dflt (k_extra "g_enter")
  (k_extra "t_steps3")
  k_dflt (exact hret _ _ _ _ _ (fin_new F N N0 (by assumption) (by assumption) (by k_asm) (by k_asm) (by (k_extra "my_keep")) (by k_mem)) (off_more N (by assumption) (by assumption) (by k_mem) (by (k_extra "my_nes"))))
theorem heard_arg_ok {n : Int} {t : Tok} {v : Value} (hv : ArgV a1 a2 tp n v) (hl : (lv, PySem.W.listOf #[.int 7 a1, .str "b" a2, .ref tp] kv) ∈ all) (hc : (c, PySem.W.listOf #[.ref t0, .ref t1] k) ∈ all) (h1 : (t1, tupO [.str "set" o1, .none]) ∈ all) (h0 : (t0, tupO [.str "arg" o0, .int n t]) ∈ all) :
    Call 60 w 523 [.ref c, .ref lv] all (fun Q E G R U s => ∀ D h' tk' k', G ((D, PySem.W.listOf #[v] k') :: all) h' → LCg.Off1 D all → Q (.ref D) { s with heap := h', toks := tk' }) := by
  intro p loose mean mg mb dp un gd cn cnm cg cc cmo a ccd cl outer A₀ base h₀ L m s Q E B F X N T XB TB hdp hu hret
  have N0 := news_lc N hl (news_lc N hc (news_lc N h1 (news_l1 N h0)))
  have hv9 : handedIn v = true := by cases hv <;> rfl
  refine wpAny_call ?_
  k_dflt (k_extra "g_enter")
  (k_extra "t_steps3")
  k_dflt (exact hret _ _ _ _ (fin_new F N N0 (by assumption) (by assumption) (by k_asm) (by k_asm) (by (k_extra "my_keep")) (by k_mem)) (off_more N (by assumption) (by assumption) (by k_mem) (by (k_extra "my_nes"))))
end
-- part C7E
section
variable {prog : Program} {w : World} {A₀ A : Around} {base h₀ hs g g' h : Heap} {outer : List Env} {L L' : Addr} {m m' : Str → Option Value} {env : Env} {n0 all new' : List (Addr × Obj)} {K : Frag}
  {p : Program} {loose : List Str} {mean : ExcName → Option Value} {mg mb : Str → Option Value}
/-- back in the caller's frame, the frames' slots turned, told of the whole ledger -/
theorem back_turned_more (B : Below A₀ base outer h₀) (N : News h₀ L hs all) (FG : Fr h₀ L g m) (hg : Ground hs n0 g) (hf : env.frame = some L) (T : KtsTurn (fsOf (env :: outer)) g g') (F' : Fr g' L' h m') (N0 : News h₀ L hs n0) (N' : News g' L' h new') (hk : ∀ q ∈ n0, q ∈ new') (XB : K.In base) (TB : Top p loose mean mg mb base) :
    ∃ h₀', KtsTurn (fsOf outer) h₀ h₀' ∧ Fr h₀' L h m ∧ News h₀' L h all ∧ Below A₀ base outer h₀' ∧ K.In h₀' ∧ Top p loose mean mg mb h₀' := by
  obtain ⟨h₀', T₁, F₁, _, B₁, X₁, P₁⟩ := back_turned B FG hf T F' N' XB TB
  refine ⟨h₀', T₁, F₁, fun q hq => ⟨?_, (N q hq).2.1, T₁.none_ _ (N q hq).2.2⟩, B₁, X₁, P₁⟩
  by_cases hm : q.1 ∈ n0.map (·.1)
  · obtain ⟨q', hq', e⟩ := List.mem_map.mp hm
    have h1 := (N q hq).1
    have h2 := (N0 q' hq').1
    rw [e, h1] at h2
    have := (N' q' (hk q' hq')).1
    rw [e] at this
    rw [this]
    exact h2.symm
  · refine F'.keep _ _ (T.other _ _ (hg.1 _ _ (N q hq).1 hm) fun z => ?_)
    rcases fs_mem hf z with z | z
    · exact (N q hq).2.1 z
    · obtain ⟨_, o, ho, _⟩ := B.frames.mem z
      rw [(N q hq).2.2] at ho; cases ho
end
section
variable {w : World} {all : List (Addr × Obj)} {c lv t0 t1 t2 tp : Addr} {k k2 kv : Nat} {o0 o1 o2 o3 a1 a2 : Tok}
theorem heard_arg_no {n : Int} {t : Tok} (hn : 4 ≤ n) (hn2 : n.natAbs < 10 ^ 160) (hl : (lv, PySem.W.listOf #[.int 7 a1, .str "b" a2, .ref tp] kv) ∈ all) (hc : (c, PySem.W.listOf #[.ref t0, .ref t1] k) ∈ all) (h1 : (t1, tupO [.str "set" o1, .none]) ∈ all) (h0 : (t0, tupO [.str "arg" o0, .int n t]) ∈ all) :
    Call 60 w 523 [.ref c, .ref lv] all (fun Q E G R U s => ∀ h' tk' t', U all h' → Q (.str "refused" t') { s with heap := h', toks := tk' }) := by
  intro p loose mean mg mb dp un gd cn cnm cg cc cmo a ccd cl outer A₀ base h₀ L m s Q E B F X N T XB TB hdp hu hret
  have N0 := news_lc N hl (news_lc N hc (news_lc N h1 (news_l1 N h0)))
  refine wpAny_call ?_
  k_dflt (k_extra "g_enter")
  (k_extra "t_steps3")
  k_dflt (refine caught_own (bm0 := [.type "Exception", .type "BaseException", .type "object"]) (newId := "Exception.__new__") (Tb := 49) (fI := 39) (by assumption) (by assumption) (by assumption) XB TB (by kernel_rfl) (by decide) (by k_is) ?_)
  intro h2 g2 T2 F2 N2 B2 X2 P2
  (k_extra "t_steps3")
  k_dflt (exact hret _ _ _ (back_turned_more B N (by assumption) (by assumption) rfl T2 (by k_asm) N0 (by k_asm) (by (k_extra "my_keep")) XB TB))
end
-- part RS0
/-- the code tables of _law_right's two lambdas, once made -/
abbrev tabFull (c1 c2 : Addr) : Obj := tabObj #[rawInt 418, rawInt 0, .ref c1, rawInt 419, rawInt 0, .ref c2]
/-- a code object of a lambda of _law_right -/
def LamCode (o : Obj) : Prop := ∃ vs t, o.data = .fields vs ∧ vs[1]? = some (.str (Str.ofString "_law_right.<locals>.<lambda>") t)
/-- what the law asks of -/
inductive RArg : Str → Value → Prop
  | int (n : Int) (t : Tok) : RArg (Str.ofString "push") (.int n t)
  | str (x : Str) (t : Tok) (hx : x.length ≤ 5000) (hl : PyData.layable0 (.str x) = true) : RArg (Str.ofString "push") (.str x t)
  | arg (n : Int) (t : Tok) : RArg (Str.ofString "arg") (.int n t)
-- part Rl
theorem bits_iff (n : Int) : (Builtin.Int.intBits n : Int) ≤ 512 ↔ 0 - 2 ^ Int.toNat 512 < n ∧ n < 2 ^ Int.toNat 512 := by
  have e : (2 ^ Int.toNat 512 : Int) = ((2 ^ 512 : Nat) : Int) := by norm_cast
  rw [e]
  unfold Builtin.Int.intBits
  by_cases h0 : n = 0
  · subst h0
    simp
    decide
  · have hb : (n == 0) = false := by simpa using h0
    rw [hb]
    simp only [Bool.false_eq_true, if_false]
    have hn : n.natAbs ≠ 0 := by omega
    have hl := Nat.log2_lt (k := 512) hn
    generalize (2 ^ 512 : Nat) = P at hl ⊢
    generalize n.natAbs.log2 = l at hl ⊢
    constructor
    · intro h
      have := hl.mp (by omega)
      omega
    · intro h
      have := hl.mpr (by omega)
      omega
theorem off1_succ {L' : Addr} {l : List (Addr × Obj)} (h : ∀ p ∈ l, p.1 < L') : LCg.Off1 (L' + 1) l := by
  induction l with
  | nil => trivial
  | cons a r ih => exact ⟨Nat.ne_of_lt (Nat.lt_succ_of_lt (h a (.head _))), ih fun p hp => h p (.tail _ hp)⟩
theorem wd29 : True := by
  (k_with "mine k_all" => (k_extra "my_nes"))
  (k_with "gc_enter" => (refine' enterCG ?k1w104x ?k2w104x ?k3w104x ?k4w104x ?k5w104x ?kAw104x ?kFw104x ?kKw104x ?k6w104x ?k7w104x ?k8w104x ?k9w104x ?kBw104x ?kDw104x ?_ ?c2w104x ?c3w104x ?c4w104x; (case kAw104x => exact rfl); (case kFw104x => exact rfl); (case kKw104x => exact rfl); (case k1w104x => k_asm); (case k2w104x => k_asm); (case k3w104x => k_asm); (case k4w104x => k_asm); (case k5w104x => k_asm); (case k6w104x => k_is); (case k7w104x => k_is); (case k8w104x => k_room); (case k9w104x => first | exact BindsTo.of_eq rfl | exact binds_K (by k_in) rfl (by k_is) rfl rfl rfl | fail "g_enter: no rule for these arguments"); (case kBw104x => exact rfl); (case kDw104x => decide +kernel); (case c2w104x => exact rfl); (case c3w104x => exact rfl); (case c4w104x => exact rfl); k_whole; intro g'w L'w h'w tk'w cells'w FG'w F'w N'w Y'w B'w X'w T'w l1 hG'w; (have l2 := off1_succ l1); (try k_lt l1); k_cells Y'w; (try simp only [List.cons_append, List.nil_append] at N'w); (try dsimp only); (try k_fold)))
  (k_with "l_enter" => (refine' lam_enterG ?k1w105x ?k2w105x ?k3w105x ?k4w105x ?k5w105x ?kAw105x ?kFw105x ?kKw105x ?k6w105x ?k7w105x ?k8w105x ?k9w105x ?kBw105x ?_ ?c2w105x ?c3w105x ?c4w105x ?c5w105x; (case kAw105x => exact rfl); (case kFw105x => exact rfl); (case kKw105x => exact rfl); (case k1w105x => k_asm); (case k2w105x => k_asm); (case k3w105x => k_asm); (case k4w105x => k_asm); (case k5w105x => k_asm); (case k6w105x => k_mem); (case k7w105x => exact codeRec_news (by k_asm) (by k_mem) (by assumption) (by assumption)); (case k8w105x => k_room); (case k9w105x => exact rfl); (case c5w105x => decide); (case kBw105x => exact locs rfl); (case c2w105x => exact rfl); (case c3w105x => exact rfl); (case c4w105x => exact rfl); k_whole; intro g'w L'w h'w FG'w F'w N'w B'w X'w T'w l1 hG'w; (try simp only [AllLt, and_true] at l1); (try dsimp only); (try k_fold)))
  (k_with "my_backV" => (intro v'w h'w tk'w G'w; (obtain ⟨F'w, N'w⟩ := G'w); (try dsimp only); (try k_sweep)))
  (k_with "call ref" => ((with_reducible show wpAny _ _ (call (Value.ref 488) _) _ _ _); (first | ((k_here; k_dflt (refine' ((hfc_A_ok ‹Pair _ _ true›) ?m1z108xw111x ?m2z108xw111x ?m3z108xw111x ?m4z108xw111x) _ _ _ _ _ _ _ _ _ _ _ _ _ _ _ _ _ _ _ _ _ _ _ _ _ ?k1z108xw111x ?k2z108xw111x ?k3z108xw111x ?k4z108xw111x ?k5z108xw111x ?k8z108xw111x ?k9z108xw111x ?kdz108xw111x ?kuz108xw111x ?_; (case k1z108xw111x => k_asm); (case k2z108xw111x => k_asm); (case k3z108xw111x => k_asm); (case k4z108xw111x => k_asm); (case k5z108xw111x => k_asm); (case k8z108xw111x => assumption); (case k9z108xw111x => assumption); (case kdz108xw111x => (k_extra "my_room")); (case kuz108xw111x => (k_extra "my_units")); (case m1z108xw111x => k_mem); (case m2z108xw111x => k_mem); (case m3z108xw111x => k_mem); (case m4z108xw111x => k_mem))); (k_extra "my_backV")) | ((k_here; k_dflt (refine' ((hfc_B_ok ‹Pair _ _ true›) ?m1z109xw111x ?m2z109xw111x ?m3z109xw111x ?m4z109xw111x ?m5z109xw111x) _ _ _ _ _ _ _ _ _ _ _ _ _ _ _ _ _ _ _ _ _ _ _ _ _ ?k1z109xw111x ?k2z109xw111x ?k3z109xw111x ?k4z109xw111x ?k5z109xw111x ?k8z109xw111x ?k9z109xw111x ?kdz109xw111x ?kuz109xw111x ?_; (case k1z109xw111x => k_asm); (case k2z109xw111x => k_asm); (case k3z109xw111x => k_asm); (case k4z109xw111x => k_asm); (case k5z109xw111x => k_asm); (case k8z109xw111x => assumption); (case k9z109xw111x => assumption); (case kdz109xw111x => (k_extra "my_room")); (case kuz109xw111x => (k_extra "my_units")); (case m1z109xw111x => k_mem); (case m2z109xw111x => k_mem); (case m3z109xw111x => k_mem); (case m4z109xw111x => k_mem); (case m5z109xw111x => k_mem))); (k_extra "my_backV")) | ((k_here; k_dflt (refine' ((hfc_A_no ‹Pair _ _ false›) ?m1z110xw111x ?m2z110xw111x ?m3z110xw111x ?m4z110xw111x) _ _ _ _ _ _ _ _ _ _ _ _ _ _ _ _ _ _ _ _ _ _ _ _ _ ?k1z110xw111x ?k2z110xw111x ?k3z110xw111x ?k4z110xw111x ?k5z110xw111x ?k8z110xw111x ?k9z110xw111x ?kdz110xw111x ?kuz110xw111x ?_; (case k1z110xw111x => k_asm); (case k2z110xw111x => k_asm); (case k3z110xw111x => k_asm); (case k4z110xw111x => k_asm); (case k5z110xw111x => k_asm); (case k8z110xw111x => assumption); (case k9z110xw111x => assumption); (case kdz110xw111x => (k_extra "my_room")); (case kuz110xw111x => (k_extra "my_units")); (case m1z110xw111x => k_mem); (case m2z110xw111x => k_mem); (case m3z110xw111x => k_mem); (case m4z110xw111x => k_mem))); (k_extra "my_backE")) | ((k_here; k_dflt (refine' ((hfc_B_no ‹Pair _ _ false›) ?m1z111xw111x ?m2z111xw111x ?m3z111xw111x ?m4z111xw111x ?m5z111xw111x) _ _ _ _ _ _ _ _ _ _ _ _ _ _ _ _ _ _ _ _ _ _ _ _ _ ?k1z111xw111x ?k2z111xw111x ?k3z111xw111x ?k4z111xw111x ?k5z111xw111x ?k8z111xw111x ?k9z111xw111x ?kdz111xw111x ?kuz111xw111x ?_; (case k1z111xw111x => k_asm); (case k2z111xw111x => k_asm); (case k3z111xw111x => k_asm); (case k4z111xw111x => k_asm); (case k5z111xw111x => k_asm); (case k8z111xw111x => assumption); (case k9z111xw111x => assumption); (case kdz111xw111x => (k_extra "my_room")); (case kuz111xw111x => (k_extra "my_units")); (case m1z111xw111x => k_mem); (case m2z111xw111x => k_mem); (case m3z111xw111x => k_mem); (case m4z111xw111x => k_mem); (case m5z111xw111x => k_mem))); (k_extra "my_backE")))))
  (k_with "my_backS" => (intro t'w h'w tk'w G'w; (obtain ⟨F'w, N'w⟩ := G'w); (try dsimp only); (try k_sweep)))
  (k_with "call ref" => ((with_reducible show wpAny _ _ (call (Value.ref 182) _) _ _ _); (first | ((k_here; k_dflt (refine' ((show_A ?hopw115x ‹Spoken _ _›) ?m1z114xw115x ?m2z114xw115x ?m3z114xw115x) _ _ _ _ _ _ _ _ _ _ _ _ _ _ _ _ _ _ _ _ _ _ _ _ _ ?k1z114xw115x ?k2z114xw115x ?k3z114xw115x ?k4z114xw115x ?k5z114xw115x ?k8z114xw115x ?k9z114xw115x ?kdz114xw115x ?kuz114xw115x ?_; (case k1z114xw115x => k_asm); (case k2z114xw115x => k_asm); (case k3z114xw115x => k_asm); (case k4z114xw115x => k_asm); (case k5z114xw115x => k_asm); (case k8z114xw115x => assumption); (case k9z114xw115x => assumption); (case kdz114xw115x => (k_extra "my_room")); (case kuz114xw115x => (k_extra "my_units")); (case m1z114xw115x => k_mem); (case m2z114xw115x => k_mem); (case m3z114xw115x => k_mem))); (case hopw115x => first | assumption | decide); (k_extra "my_backS")) | ((k_here; k_dflt (refine' ((show_B ?hopw115x ‹Spoken _ _›) ?m1z115xw115x ?m2z115xw115x ?m3z115xw115x ?m4z115xw115x) _ _ _ _ _ _ _ _ _ _ _ _ _ _ _ _ _ _ _ _ _ _ _ _ _ ?k1z115xw115x ?k2z115xw115x ?k3z115xw115x ?k4z115xw115x ?k5z115xw115x ?k8z115xw115x ?k9z115xw115x ?kdz115xw115x ?kuz115xw115x ?_; (case k1z115xw115x => k_asm); (case k2z115xw115x => k_asm); (case k3z115xw115x => k_asm); (case k4z115xw115x => k_asm); (case k5z115xw115x => k_asm); (case k8z115xw115x => assumption); (case k9z115xw115x => assumption); (case kdz115xw115x => (k_extra "my_room")); (case kuz115xw115x => (k_extra "my_units")); (case m1z115xw115x => k_mem); (case m2z115xw115x => k_mem); (case m3z115xw115x => k_mem); (case m4z115xw115x => k_mem))); (case hopw115x => first | assumption | decide); (k_extra "my_backS")))))
  (k_with "my_backD" => (intro D'w h'w tk'w k'w G'w o1'w; (obtain ⟨F'w, N'w⟩ := G'w); (try dsimp only); (try k_sweep)))
  (k_with "my_backDt" => (intro D'w h'w tk'w k'w t'w G'w o1'w; (obtain ⟨F'w, N'w⟩ := G'w); (try dsimp only); (try k_sweep)))
  (k_with "eval ListComp" => (k_here; (with_reducible show wpAny _ _ (eval (Expr.ListComp _ [⟨_, Expr.Call (Expr.Name (Str.ofString "enumerate") _) _ _ _, _, _⟩] _ _) _) _ _ _); k_dflt (refine en_comp (by k_asm) (by with_unfolding_all rfl) (by decide) (by rfl) (by decide) (by rfl) (by rfl) (by decide) ?_)))
  (k_with "my_el" => (intro t'w C'w oC'w m'w h'w tk'w E'w hC'w hx'w hy'w F'w N'w; (k_extra "t_steps3"); try exact ⟨_, _, rfl, rfl⟩))
  (k_with "my_row" => first | exact row_a0 _ | exact row_a1 _ | exact row_b0 _ | exact row_b1 _ | exact row_s1 | exact row_s2 | exact row_j0 | (fail "my_row"))
  (k_with "call type:enumerate" => (k_here; (with_reducible show wpAny _ _ (call (Value.type _) [Value.ref _]) (EnSrc _ _ _ _ _ _ _ _ _ _ _ _ _) _ _); (first
      | (k_dflt (refine' en_call2 (x0 := ?x0w121x) (x1 := ?x1w121x) (y0 := ?y0w121x) (y1 := ?y1w121x) ?hhw121x ?Fw121x ?Nw121x ?hmw121x ?e0w121x ?e1w121x ?i0w121x ?i1w121x ?hfw121x; (case hhw121x => rfl); (case Fw121x => k_asm); (case Nw121x => k_asm); (case hmw121x => k_mem)); (case e0w121x => (k_extra "my_el")); (case e1w121x => (k_extra "my_el")); (case i0w121x => (k_extra "my_row")); (case i1w121x => (k_extra "my_row")); intro t0'w t1'w D'w h'w tk'w F'w N'w o1'w)
      | (k_dflt (refine' en_call3 (x0 := ?x0w121x) (x1 := ?x1w121x) (x2 := ?x2w121x) (y0 := ?y0w121x) (y1 := ?y1w121x) (y2 := ?y2w121x) ?hhw121x ?Fw121x ?Nw121x ?hmw121x ?e0w121x ?e1w121x ?e2w121x ?i0w121x ?i1w121x ?i2w121x ?hfw121x; (case hhw121x => rfl); (case Fw121x => k_asm); (case Nw121x => k_asm); (case hmw121x => k_mem)); (case e0w121x => (k_extra "my_el")); (case e1w121x => (k_extra "my_el")); (case e2w121x => (k_extra "my_el")); (case i0w121x => (k_extra "my_row")); (case i1w121x => (k_extra "my_row")); (case i2w121x => (k_extra "my_row")); intro t0'w t1'w t2'w D'w h'w tk'w F'w N'w o1'w))))
  trivial
theorem lit_len6 : (Str.ofString "push").length = 4 := by decide
theorem lit_len7 : (Str.ofString "arg").length = 3 := by decide
theorem wd30 : True := by
  (k_with "call builtin:str.join" => (k_here; refine join_listC (News.isList (by k_asm) (by k_mem)) (by kde_strs) (by decide) (by
        (have hS9w := Spoken.len ‹Spoken _ _›)
        (simp only [List.map, List.sum_cons, List.sum_nil, List.length_cons, List.length_nil, Str.length_append, lit_len0, lit_len1, lit_len2, lit_len3, lit_len4, lit_len5, lit_len6, lit_len7]; omega)) ?_; intro t9'w k9'w))
  trivial
theorem ne_same {prog : Program} {w : World} {A : Around} {E : Value → Shared → Prop} {s : Shared} {x : Str} {t u : Tok} {Q : Value → Shared → Prop} (h : Q (.bool false) s) : wpAny (model prog w) A (compareOp .NotEq (.str x t) (.str x u)) Q E s := ne_str (by simpa using h)
theorem wd31 : True := by
  (k_with "compareOp NotEq str str" => (k_here; with_reducible refine ne_same ?_))
  (k_with "my_lam_ok" => (
      intro p9w loose9w mean9w mg9w mb9w dp9w un9w gd9w cn9w cnm9w cg9w cc9w cmo9w a9w ccd9w cl9w outer9w A9w base9w h9w L9w m9w s9w Q9w E9w B9w F9w X9w N9w T9w XB9w TB9w hdp9w hu9w hret9w
      refine wpAny_call ?_
      k_dflt (k_extra "l_enter")
      (k_extra "t_steps3")
      exact hret9w _ _ _ (fin_all F9w N9w N9w (by assumption) (by assumption) (by k_asm) (by k_asm) (by (k_extra "my_keep")))))
  (k_with "my_lam_no" => (
      intro p9w loose9w mean9w mg9w mb9w dp9w un9w gd9w cn9w cnm9w cg9w cc9w cmo9w a9w ccd9w cl9w outer9w A9w base9w h9w L9w m9w s9w Q9w E9w B9w F9w X9w N9w T9w XB9w TB9w hdp9w hu9w hret9w
      refine wpAny_call ?_
      k_dflt (k_extra "l_enter")
      (k_extra "t_steps3")
      refine leave_next (by k_asm) (by assumption) (by assumption) rfl (fun h'w R => hret9w _ _ _ (raised_more F9w B9w N9w N9w rfl (by assumption) (Raised.drop R (by (k_extra "my_keep")))))))
  trivial
theorem isl_p {w : World} {all : List (Addr × Obj)} {f : Addr} {op : Str} {v : Value} {d : Bool} (hp : Pair op v d) (hfn : ∀ h₀ L h, News h₀ L h all → FnAt f h) (H1 : Pair op v true → Call 35 w f [] all (fun Q E G R U s => ∀ v h' tk', G all h' → Q v { s with heap := h', toks := tk' }))
    (H0 : Pair op v false → Call 35 w f [] all (fun Q E G R U s => ∀ e h' tk', R e 62 h' → E (.ref e) { s with heap := h', toks := tk' })) :
    Call 40 w 516 [.ref f] all (fun Q E G R U s => ∀ h' tk', U all h' → Q (.bool d) { s with heap := h', toks := tk' }) := isl_d hfn (fun e => H1 (e ▸ hp)) (fun e => H0 (e ▸ hp))
theorem wd32 : True := by
  (k_with "my_isl_d" => (
      (k_here; k_dflt (refine' ((isl_p ‹Pair _ _ _› ?hfnw127x ?H1w127x ?H0w127x)) _ _ _ _ _ _ _ _ _ _ _ _ _ _ _ _ _ _ _ _ _ _ _ _ _ ?k1z127xw127x ?k2z127xw127x ?k3z127xw127x ?k4z127xw127x ?k5z127xw127x ?k8z127xw127x ?k9z127xw127x ?kdz127xw127x ?kuz127xw127x ?_; (case k1z127xw127x => k_asm); (case k2z127xw127x => k_asm); (case k3z127xw127x => k_asm); (case k4z127xw127x => k_asm); (case k5z127xw127x => k_asm); (case k8z127xw127x => assumption); (case k9z127xw127x => assumption); (case kdz127xw127x => (k_extra "my_room")); (case kuz127xw127x => (k_extra "my_units"))))
      case hfnw127x => (intro h9w L9w h8 N9w; exact FnAt.of N9w (by k_mem))
      case H1w127x => (intro hp9w; (k_extra "my_lam_ok"))
      case H0w127x => (intro hp9w; (k_extra "my_lam_no"))
      intro h'w tk'w U'w
      obtain ⟨g'w, TT'w, F'w, N'w, B'w, X'w, T'w⟩ := U'w
      replace N'w := news_tl N'w
      (try dsimp only)
      (try k_sweep)))
  (k_with "call ref" => ((with_reducible show wpAny _ _ (call (Value.ref 516) _) _ _ _); k_dflt (k_extra "my_isl_d")))
  trivial
-- part Rm
theorem small_of {n : Int} (h1 : 0 - 2 ^ Int.toNat 512 < n) (h2 : n < 2 ^ Int.toNat 512) : n.natAbs < 10 ^ 160 := by
  have e : (2 ^ Int.toNat 512 : Int) < 10 ^ 160 := by decide
  omega
theorem back_sub {h₀ h h' g : Heap} {L L' : Addr} {m m' : Str → Option Value} {new' nw : List (Addr × Obj)} (F : Fr h₀ L h m) (FG : Fr h₀ L g m) (F' : Fr g L' h' m') (N' : News g L' h' new') (hs : ∀ q ∈ nw, q ∈ new') : Fr h₀ L h' m ∧ News h₀ L h' nw := by
  obtain ⟨oL, es, ep, hLg, hLd, hLk, hLf⟩ := FG.ns
  refine ⟨⟨⟨oL, es, ep, F'.keep _ _ hLg, hLd, hLk, hLf⟩, fun b o e => F'.keep _ _ (FG.keep b o e), FG.above⟩, fun q hq => ?_⟩
  have z := N' q (hs q hq)
  refine ⟨z.1, fun y => ?_, kts_none FG.keep z.2.2⟩
  have := z.2.2; rw [y, hLg] at this; cases this
theorem u_of_g {A₀ : Around} {base h₀ h' : Heap} {outer : List Env} {L : Addr} {m : Str → Option Value} {nw : List (Addr × Obj)} {K : Frag} {p : Program} {loose : List Str} {mean : ExcName → Option Value} {mg mb : Str → Option Value} (B : Below A₀ base outer h₀) (X : K.In h₀) (T : Top p loose mean mg mb h₀) (z : Fr h₀ L h' m ∧ News h₀ L h' nw) :
    ∃ h₁, KtsTurn (fsOf outer) h₀ h₁ ∧ Fr h₁ L h' m ∧ News h₁ L h' nw ∧ Below A₀ base outer h₁ ∧ K.In h₁ ∧ Top p loose mean mg mb h₁ := ⟨h₀, KtsTurn.refl, z.1, z.2, B, X, T⟩
theorem turn_back {A₀ : Around} {base h₀ hs g g' h : Heap} {outer : List Env} {L L' : Addr} {m m' : Str → Option Value} {env : Env} {n0 all new' : List (Addr × Obj)} {K : Frag} {p : Program} {loose : List Str} {mean : ExcName → Option Value} {mg mb : Str → Option Value}
    (T : KtsTurn (fsOf (env :: outer)) g g') (F' : Fr g' L' h m') (N' : News g' L' h new') (FG : Fr h₀ L g m) (hg : Ground hs n0 g) (B : Below A₀ base outer h₀) (N : News h₀ L hs all) (N0 : News h₀ L hs n0) (hk : ∀ q ∈ n0, q ∈ new') (XB : K.In base) (TB : Top p loose mean mg mb base) (hf : env.frame = some L) :
    ∃ h₀', KtsTurn (fsOf outer) h₀ h₀' ∧ Fr h₀' L h m ∧ News h₀' L h all ∧ Below A₀ base outer h₀' ∧ K.In h₀' ∧ Top p loose mean mg mb h₀' := back_turned_more B N FG hg hf T F' N0 N' hk XB TB
section
variable {prog : Program} {w : World} {A : Around} {E : Value → Shared → Prop} {s : Shared} {a b : Int} {t u : Tok} {Q : Value → Shared → Prop}
theorem my_ltT (hc : a < b) (h : Q (.bool true) s) : wpAny (model prog w) A (compareOp .Lt (.int a t) (.int b u)) Q E s := PyProof.Rows.lt_int (by rw [decide_eq_true hc]; exact h)
theorem my_ltF (hc : ¬ a < b) (h : Q (.bool false) s) : wpAny (model prog w) A (compareOp .Lt (.int a t) (.int b u)) Q E s := PyProof.Rows.lt_int (by rw [decide_eq_false hc]; exact h)
theorem my_leT (hc : a ≤ b) (h : Q (.bool true) s) : wpAny (model prog w) A (compareOp .LtE (.int a t) (.int b u)) Q E s := PyProof.Rows.le_int (by rw [decide_eq_true hc]; exact h)
theorem my_leF (hc : ¬ a ≤ b) (h : Q (.bool false) s) : wpAny (model prog w) A (compareOp .LtE (.int a t) (.int b u)) Q E s := PyProof.Rows.le_int (by rw [decide_eq_false hc]; exact h)
theorem my_geT (hc : b ≤ a) (h : Q (.bool true) s) : wpAny (model prog w) A (compareOp .GtE (.int a t) (.int b u)) Q E s := PyProof.Rows.ge_int (by rw [decide_eq_true hc]; exact h)
theorem my_geF (hc : ¬ b ≤ a) (h : Q (.bool false) s) : wpAny (model prog w) A (compareOp .GtE (.int a t) (.int b u)) Q E s := PyProof.Rows.ge_int (by rw [decide_eq_false hc]; exact h)
end
theorem my_eq_same {prog : Program} {w : World} {A : Around} {E : Value → Shared → Prop} {s : Shared} {h₀ : Heap} {L a b : Addr} {news : List (Addr × Obj)} {vs : Array Value} {n k : Nat} {Q : Value → Shared → Prop} (N : News h₀ L s.heap news) (ha : (a, PySem.W.listOf vs n) ∈ news) (hb : (b, PySem.W.listOf vs k) ∈ news)
    (hu : A.units < cLine) (h : Q (.bool true) s) : wpAny (model prog w) A (compareOp .Eq (.ref a) (.ref b)) Q E s :=
  SeqAt.eq_listAt (e := fun _ => true) (PySem.IsL.isList (n := n) (N _ ha).1) (PySem.IsL.isList (n := k) (N _ hb).1) rfl hu (fun j h1 h2 => SeqAt.EqAt.same _) (by rw [show (List.range vs.size).all (fun _ => true) = true from List.all_eq_true.mpr fun _ _ => rfl]; exact h)
theorem my_eq_str1 {prog : Program} {w : World} {A : Around} {E : Value → Shared → Prop} {s : Shared} {h₀ : Heap} {L a b : Addr} {news : List (Addr × Obj)} {x : Str} {t u : Tok} {n k : Nat} {Q : Value → Shared → Prop} (N : News h₀ L s.heap news) (ha : (a, PySem.W.listOf #[.str x t] n) ∈ news) (hb : (b, PySem.W.listOf #[.str x u] k) ∈ news)
    (hu : A.units < cLine) (h : Q (.bool true) s) : wpAny (model prog w) A (compareOp .Eq (.ref a) (.ref b)) Q E s :=
  SeqAt.eq_listAt (e := fun _ => true) (PySem.IsL.isList (n := n) (N _ ha).1) (PySem.IsL.isList (n := k) (N _ hb).1) rfl hu (fun j h1 h2 => by
    have hj : j = 0 := by simpa using h1
    subst hj
    have z := SeqAt.EqAt.str_str (A := A.in1) (s := s) x t x u
    rw [beq_self_eq_true] at z
    exact z) h
theorem wd33 : True := by
  (k_with "compareOp Eq ref ref" => (k_here; (with_reducible show wpAny _ _ (compareOp CmpOp.Eq (Value.ref _) (Value.ref _)) _ _ _); k_dflt (refine' my_eq_str1 ?k1w129x ?k2w129x ?k3w129x ?k4w129x ?_; (case k1w129x => k_asm); (case k2w129x => k_mem); (case k3w129x => k_mem); (case k4w129x => (k_extra "my_units")); walk_say "MY EQ1")))
  (k_with "compareOp Eq ref ref" => (k_here; (with_reducible show wpAny _ _ (compareOp CmpOp.Eq (Value.ref _) (Value.ref _)) _ _ _); k_dflt (refine' my_eq_same ?k1w130x ?k2w130x ?k3w130x ?k4w130x ?_; (case k1w130x => k_asm); (case k2w130x => k_mem); (case k3w130x => k_mem); (case k4w130x => (k_extra "my_units")); walk_say "MY EQ")))
  (k_with "compareOp Lt int int" => (k_here; with_reducible first | refine my_ltT (by assumption) ?_ | refine my_ltF (by assumption) ?_))
  (k_with "compareOp LtE int int" => (k_here; with_reducible first | refine my_leT (by assumption) ?_ | refine my_leF (by assumption) ?_))
  (k_with "compareOp GtE int int" => (k_here; with_reducible first | refine my_geT (by assumption) ?_ | refine my_geF (by assumption) ?_))
  trivial
theorem mem3 {l all : List (Addr × Obj)} {a b c : Addr × Obj} (h3 : c ∈ l) (h1 : a ∈ l) (h2 : b ∈ l) (h4 : ∀ q ∈ all, q ∈ l) : ∀ q ∈ a :: b :: c :: all, q ∈ l := fun q hq => by
  rcases List.mem_cons.mp hq with rfl | hq
  · exact h1
  rcases List.mem_cons.mp hq with rfl | hq
  · exact h2
  rcases List.mem_cons.mp hq with rfl | hq
  · exact h3
  exact h4 q hq
theorem pickA {b x : Nat} {l : List (Addr × Obj)} {r : Prop} (h : x < b ∧ r) (k : x < b ∧ r → AllLt b l) : AllLt b l := k h
theorem lam_code {o : Obj} {vs : Array Value} {t : Tok} {q : Str} (d1 : o.data = .fields vs) (d2 : vs[1]? = some (.str q t)) (e : q = Str.ofString "_law_right.<locals>.<lambda>") : LamCode o := ⟨vs, t, d1, e ▸ d2⟩
theorem codeRec_lit {h₀ h : Heap} {L c : Addr} {oc : Obj} {q : Str} {news : List (Addr × Obj)} (N : News h₀ L h news) (hm : (c, oc) ∈ news) (hl : LamCode oc) (e : q = Str.ofString "_law_right.<locals>.<lambda>") : h.CodeRec (.ref c) q := by
  obtain ⟨vs, t, d1, d2⟩ := hl
  exact codeRec_news N hm d1 (e ▸ d2)
theorem wd34 : True := by
  (k_with "l_enter" => (refine' lam_enterG ?k1w134x ?k2w134x ?k3w134x ?k4w134x ?k5w134x ?kAw134x ?kFw134x ?kKw134x ?k6w134x ?k7w134x ?k8w134x ?k9w134x ?kBw134x ?_ ?c2w134x ?c3w134x ?c4w134x ?c5w134x; (case kAw134x => exact rfl); (case kFw134x => exact rfl); (case kKw134x => exact rfl); (case k1w134x => k_asm); (case k2w134x => k_asm); (case k3w134x => k_asm); (case k4w134x => k_asm); (case k5w134x => k_asm); (case k6w134x => k_mem); (case k7w134x => first | exact codeRec_lit (by k_asm) (by k_mem) (by assumption) (by first | rfl | kernel_rfl) | exact codeRec_news (by k_asm) (by k_mem) (by assumption) (by assumption)); (case k8w134x => k_room); (case k9w134x => exact rfl); (case c5w134x => decide); (case kBw134x => exact locs rfl); (case c2w134x => exact rfl); (case c3w134x => exact rfl); (case c4w134x => exact rfl); k_whole; intro g'w L'w h'w FG'w F'w N'w B'w X'w T'w l1 hG'w; (try simp only [AllLt, and_true] at l1); (try dsimp only); (try k_fold)))
  trivial
theorem argv1 {a1 a2 : Tok} {tp : Addr} {n : Int} (h : n = 1) : ArgV a1 a2 tp n (.int 7 a1) := h ▸ ArgV.one
theorem argv2 {a1 a2 : Tok} {tp : Addr} {n : Int} (h : n = 2) : ArgV a1 a2 tp n (.str "b" a2) := h ▸ ArgV.two
theorem argv3 {a1 a2 : Tok} {tp : Addr} {n : Int} (h : n = 3) : ArgV a1 a2 tp n (.ref tp) := h ▸ ArgV.three
theorem wd35 : True := by
  (k_with "subscriptTail Name BinOp ref int" => (k_here; k_dflt (refine' my_item ?Nw135x ?mw135x ?aw135x ?bw135x ?xw135x ?_ ?hsw135x; (case Nw135x => k_asm); (case mw135x => k_mem); (case aw135x => omega); (case bw135x => omega); (case xw135x => (rw [‹Int.toNat _ = _›]; rfl)); (case hsw135x => with_unfolding_all rfl))))
  (k_with "my_backU" => (intro h'w tk'w t'w U'w; (obtain ⟨g'w, TT'w, F'w, N'w, B'w, X'w, T'w⟩ := U'w); (try dsimp only); (try k_sweep)))
  (k_with "call ref" => ((with_reducible show wpAny _ _ (call (Value.ref 523) _) _ _ _); k_dflt (first
      | ((k_here; k_dflt (refine' ((heard_push ‹handedIn _ = true›) ?m1z138xw143x ?m2z138xw143x ?m3z138xw143x) _ _ _ _ _ _ _ _ _ _ _ _ _ _ _ _ _ _ _ _ _ _ _ _ _ ?k1z138xw143x ?k2z138xw143x ?k3z138xw143x ?k4z138xw143x ?k5z138xw143x ?k8z138xw143x ?k9z138xw143x ?kdz138xw143x ?kuz138xw143x ?_; (case k1z138xw143x => k_asm); (case k2z138xw143x => k_asm); (case k3z138xw143x => k_asm); (case k4z138xw143x => k_asm); (case k5z138xw143x => k_asm); (case k8z138xw143x => assumption); (case k9z138xw143x => assumption); (case kdz138xw143x => (k_extra "my_room")); (case kuz138xw143x => (k_extra "my_units")); (case m1z138xw143x => k_mem); (case m2z138xw143x => k_mem); (case m3z138xw143x => k_mem))); (k_extra "my_backD"))
      | ((k_here; k_dflt (refine' ((heard_around) ?m1z139xw143x ?m2z139xw143x) _ _ _ _ _ _ _ _ _ _ _ _ _ _ _ _ _ _ _ _ _ _ _ _ _ ?k1z139xw143x ?k2z139xw143x ?k3z139xw143x ?k4z139xw143x ?k5z139xw143x ?k8z139xw143x ?k9z139xw143x ?kdz139xw143x ?kuz139xw143x ?_; (case k1z139xw143x => k_asm); (case k2z139xw143x => k_asm); (case k3z139xw143x => k_asm); (case k4z139xw143x => k_asm); (case k5z139xw143x => k_asm); (case k8z139xw143x => assumption); (case k9z139xw143x => assumption); (case kdz139xw143x => (k_extra "my_room")); (case kuz139xw143x => (k_extra "my_units")); (case m1z139xw143x => k_mem); (case m2z139xw143x => k_mem))); (k_extra "my_backDt"))
      | ((k_here; k_dflt (refine' ((heard_arg_ok (argv1 ‹_ = (1 : Int)›)) ?m1z140xw143x ?m2z140xw143x ?m3z140xw143x ?m4z140xw143x) _ _ _ _ _ _ _ _ _ _ _ _ _ _ _ _ _ _ _ _ _ _ _ _ _ ?k1z140xw143x ?k2z140xw143x ?k3z140xw143x ?k4z140xw143x ?k5z140xw143x ?k8z140xw143x ?k9z140xw143x ?kdz140xw143x ?kuz140xw143x ?_; (case k1z140xw143x => k_asm); (case k2z140xw143x => k_asm); (case k3z140xw143x => k_asm); (case k4z140xw143x => k_asm); (case k5z140xw143x => k_asm); (case k8z140xw143x => assumption); (case k9z140xw143x => assumption); (case kdz140xw143x => (k_extra "my_room")); (case kuz140xw143x => (k_extra "my_units")); (case m1z140xw143x => k_mem); (case m2z140xw143x => k_mem); (case m3z140xw143x => k_mem); (case m4z140xw143x => k_mem))); (k_extra "my_backD"))
      | ((k_here; k_dflt (refine' ((heard_arg_ok (argv2 ‹_ = (2 : Int)›)) ?m1z141xw143x ?m2z141xw143x ?m3z141xw143x ?m4z141xw143x) _ _ _ _ _ _ _ _ _ _ _ _ _ _ _ _ _ _ _ _ _ _ _ _ _ ?k1z141xw143x ?k2z141xw143x ?k3z141xw143x ?k4z141xw143x ?k5z141xw143x ?k8z141xw143x ?k9z141xw143x ?kdz141xw143x ?kuz141xw143x ?_; (case k1z141xw143x => k_asm); (case k2z141xw143x => k_asm); (case k3z141xw143x => k_asm); (case k4z141xw143x => k_asm); (case k5z141xw143x => k_asm); (case k8z141xw143x => assumption); (case k9z141xw143x => assumption); (case kdz141xw143x => (k_extra "my_room")); (case kuz141xw143x => (k_extra "my_units")); (case m1z141xw143x => k_mem); (case m2z141xw143x => k_mem); (case m3z141xw143x => k_mem); (case m4z141xw143x => k_mem))); (k_extra "my_backD"))
      | ((k_here; k_dflt (refine' ((heard_arg_ok (argv3 ‹_ = (3 : Int)›)) ?m1z142xw143x ?m2z142xw143x ?m3z142xw143x ?m4z142xw143x) _ _ _ _ _ _ _ _ _ _ _ _ _ _ _ _ _ _ _ _ _ _ _ _ _ ?k1z142xw143x ?k2z142xw143x ?k3z142xw143x ?k4z142xw143x ?k5z142xw143x ?k8z142xw143x ?k9z142xw143x ?kdz142xw143x ?kuz142xw143x ?_; (case k1z142xw143x => k_asm); (case k2z142xw143x => k_asm); (case k3z142xw143x => k_asm); (case k4z142xw143x => k_asm); (case k5z142xw143x => k_asm); (case k8z142xw143x => assumption); (case k9z142xw143x => assumption); (case kdz142xw143x => (k_extra "my_room")); (case kuz142xw143x => (k_extra "my_units")); (case m1z142xw143x => k_mem); (case m2z142xw143x => k_mem); (case m3z142xw143x => k_mem); (case m4z142xw143x => k_mem))); (k_extra "my_backD"))
      | ((k_here; k_dflt (refine' ((heard_arg_no ‹(4 : Int) ≤ _› ‹Int.natAbs _ < _›) ?m1z143xw143x ?m2z143xw143x ?m3z143xw143x ?m4z143xw143x) _ _ _ _ _ _ _ _ _ _ _ _ _ _ _ _ _ _ _ _ _ _ _ _ _ ?k1z143xw143x ?k2z143xw143x ?k3z143xw143x ?k4z143xw143x ?k5z143xw143x ?k8z143xw143x ?k9z143xw143x ?kdz143xw143x ?kuz143xw143x ?_; (case k1z143xw143x => k_asm); (case k2z143xw143x => k_asm); (case k3z143xw143x => k_asm); (case k4z143xw143x => k_asm); (case k5z143xw143x => k_asm); (case k8z143xw143x => assumption); (case k9z143xw143x => assumption); (case kdz143xw143x => (k_extra "my_room")); (case kuz143xw143x => (k_extra "my_units")); (case m1z143xw143x => k_mem); (case m2z143xw143x => k_mem); (case m3z143xw143x => k_mem); (case m4z143xw143x => k_mem))); (k_extra "my_backU")))))
  trivial
-- part R1
theorem row_g0 (op X : Str) : Str.ofString (toString 0) ++ Str.ofString " " ++ (op ++ Str.ofString " " ++ X) = Str.ofString "0 " ++ op ++ (Str.ofString " " ++ X) := by
  rw [show Str.ofString (toString 0) ++ Str.ofString " " = Str.ofString "0 " by decide]; simp only [Str.append_assoc]
theorem row_g1 (op X : Str) : Str.ofString (toString 1) ++ Str.ofString " " ++ (op ++ Str.ofString " " ++ X) = Str.ofString "1 " ++ op ++ (Str.ofString " " ++ X) := by
  rw [show Str.ofString (toString 1) ++ Str.ofString " " = Str.ofString "1 " by decide]; simp only [Str.append_assoc]
theorem wd36 : True := by
  (k_with "my_row" => first | exact row_g0 _ _ | exact row_g1 _ _)
  trivial
/-- whether the value's size is let -/
inductive Due : Value → Bool → Prop
  | lo (n : Int) (t : Tok) (h : ¬ 0 - 2 ^ Int.toNat 512 < n) : Due (.int n t) false
  | hi (n : Int) (t : Tok) (h : 0 - 2 ^ Int.toNat 512 < n) (h2 : ¬ n < 2 ^ Int.toNat 512) : Due (.int n t) false
  | mid (n : Int) (t : Tok) (h : 0 - 2 ^ Int.toNat 512 < n) (h2 : n < 2 ^ Int.toNat 512) : Due (.int n t) true
  | short (x : Str) (t : Tok) (hx : x.length ≤ 5000) (h : (x.length : Int) ≤ 2000) : Due (.str x t) true
  | long (x : Str) (t : Tok) (hx : x.length ≤ 5000) (h : ¬ (x.length : Int) ≤ 2000) : Due (.str x t) false
/-- whether the pair is let, by whether its value's size is -/
inductive Due2 : Str → Value → Bool → Bool → Prop
  | no {op : Str} {v : Value} : Due2 op v false false
  | push {v : Value} : Due2 (Str.ofString "push") v true true
  | arg (n : Int) (t : Tok) (h : 1 ≤ n) : Due2 (Str.ofString "arg") (.int n t) true true
  | less (n : Int) (t : Tok) (h : ¬ 1 ≤ n) : Due2 (Str.ofString "arg") (.int n t) true false
/-- the ways of a let pair through a run -/
inductive KA : Str → Value → Prop
  | push (v : Value) (hv : handedIn v = true) : KA (Str.ofString "push") v
  | one (n : Int) (t : Tok) (h : n = 1) (h3 : n ≤ 3) (hz : (n - 1).toNat = 0) : KA (Str.ofString "arg") (.int n t)
  | two (n : Int) (t : Tok) (h : n = 2) (h3 : n ≤ 3) (hz : (n - 1).toNat = 1) : KA (Str.ofString "arg") (.int n t)
  | three (n : Int) (t : Tok) (h : n = 3) (h3 : n ≤ 3) (hz : (n - 1).toNat = 2) : KA (Str.ofString "arg") (.int n t)
  | far (n : Int) (t : Tok) (h : 4 ≤ n) (h2 : n.natAbs < 10 ^ 160) (h3 : ¬ n ≤ 3) : KA (Str.ofString "arg") (.int n t)
section
variable {prog : Program} {w : World} {A : Around} {E : Value → Shared → Prop} {s : Shared} {h₀ h : Heap} {L : Addr} {m : Str → Option Value} {nw : List (Addr × Obj)} {c : Sem Value} {Q : Value → Shared → Prop} {g : Array GenState} {d : Drawn} {t : Nat} {o : OsState}
theorem cut_due {v : Value} {b : Bool} (hS : Due v b) (F : Fr h₀ L h m) (N : News h₀ L h nw) (e : s = ⟨h, g, d, t, o⟩)
    (h0 : ∀ (R : Value → Shared → Prop), (∀ h' tk', Fr h₀ L h' m → News h₀ L h' nw → R (.bool b) ⟨h', g, d, tk', o⟩) → wpAny (model prog w) A c R E ⟨h, g, d, t, o⟩)
    (k : ∀ h' tk', Fr h₀ L h' m → News h₀ L h' nw → Q (.bool b) ⟨h', g, d, tk', o⟩) : wpAny (model prog w) A c Q E s := e ▸ h0 Q k
theorem cut_due2 {op : Str} {v : Value} {b b2 : Bool} (hS : Due2 op v b b2) (F : Fr h₀ L h m) (N : News h₀ L h nw) (e : s = ⟨h, g, d, t, o⟩)
    (h0 : ∀ (R : Value → Shared → Prop), (∀ h' tk', Fr h₀ L h' m → News h₀ L h' nw → R (.bool b2) ⟨h', g, d, tk', o⟩) → wpAny (model prog w) A c R E ⟨h, g, d, t, o⟩)
    (k : ∀ h' tk', Fr h₀ L h' m → News h₀ L h' nw → Q (.bool b2) ⟨h', g, d, tk', o⟩) : wpAny (model prog w) A c Q E s := e ▸ h0 Q k
theorem cut_spk {v : Value} {S : Str} (hS : Spoken v S) (F : Fr h₀ L h m) (N : News h₀ L h nw) (e : s = ⟨h, g, d, t, o⟩)
    (h0 : ∀ (R : Value → Shared → Prop), (∀ t' h' tk', Fr h₀ L h' m → News h₀ L h' nw → R (.str S t') ⟨h', g, d, tk', o⟩) → wpAny (model prog w) A c R E ⟨h, g, d, t, o⟩)
    (k : ∀ t' h' tk', Fr h₀ L h' m → News h₀ L h' nw → Q (.str S t') ⟨h', g, d, tk', o⟩) : wpAny (model prog w) A c Q E s := e ▸ h0 Q k
end
theorem ne_same_b {prog : Program} {w : World} {A : Around} {E : Value → Shared → Prop} {s : Shared} {b : Bool} {Q : Value → Shared → Prop} (h : Q (.bool false) s) : wpAny (model prog w) A (compareOp .NotEq (.bool b) (.bool b)) Q E s := PyProof.Rows.ne_bool (by rw [show (b != b) = false by cases b <;> rfl]; exact h)
theorem wd37 : True := by
  (k_with "compareOp NotEq bool bool" => (k_here; with_reducible refine ne_same_b ?_))
  (k_with "eval IfExp" => (k_here; (with_reducible show wpAny _ _ (eval (Expr.IfExp (Expr.Call _ _ _ _) (Expr.Compare _ _ _ _) _ _) _) _ _ _); (rename Due _ _ => hS9w); (with_reducible rename Fr _ _ _ _ => fz9w); (with_reducible rename News _ _ _ _ => nz9w); with_reducible refine' cut_due hS9w fz9w nz9w ?e9w146x ?h9w146x ?_; (case e9w146x => k_dflt (first | (dsimp only; done) | exact rfl)); (case h9w146x => (intro R9w hR9w; k_dflt (cases hS9w <;> ((k_extra "t_steps3"); exact hR9w _ _ (by k_asm) (by k_asm))))); intro h'w tk'w F'w N'w; walk_say "CUT due"))
  (k_with "eval BoolOp" => (k_here; (with_reducible show wpAny _ _ (eval (Expr.BoolOp BoolOp.And _ _) _) _ _ _); (rename Due2 _ _ _ _ => hS9w); (with_reducible rename Fr _ _ _ _ => fz9w); (with_reducible rename News _ _ _ _ => nz9w); with_reducible refine' cut_due2 hS9w fz9w nz9w ?e9w147x ?h9w147x ?_; (case e9w147x => k_dflt (first | (dsimp only; done) | exact rfl)); (case h9w147x => (intro R9w hR9w; k_dflt (cases hS9w <;> ((k_extra "t_steps3"); exact hR9w _ _ (by k_asm) (by k_asm))))); intro h'w tk'w F'w N'w; walk_say "CUT due2"))
  (k_with "eval IfExp" => (k_here; (with_reducible show wpAny _ _ (eval (Expr.IfExp (Expr.Call _ _ _ _) (Expr.Call _ _ _ _) _ _) _) _ _ _); (rename Spoken _ _ => hS9w); (with_reducible rename Fr _ _ _ _ => fz9w); (with_reducible rename News _ _ _ _ => nz9w); with_reducible refine' cut_spk hS9w fz9w nz9w ?e9w148x ?h9w148x ?_; (case e9w148x => k_dflt (first | (dsimp only; done) | exact rfl)); (case h9w148x => (intro R9w hR9w; k_dflt (cases hS9w <;> ((k_extra "t_steps3"); exact hR9w _ _ _ (by k_asm) (by k_asm))))); intro t'w h'w tk'w F'w N'w; walk_say "CUT spoken"))
  trivial
section
variable {w : World} {all : List (Addr × Obj)} {c1 c2 : Addr} {o1 o2 : Obj}
theorem right_mA {op : Str} {v : Value} {b d : Bool} (hop : op.length ≤ 10) (hD : Due v b) (hD2 : Due2 op v b d) (hp : Pair op v d) (hSp : d = true → ∃ S, Spoken v S) (hKA : d = true → KA op v) (hl1 : LamCode o1) (hl2 : LamCode o2) (ht : (525, tabFull c1 c2) ∈ all) (hm1 : (c1, o1) ∈ all) (hm2 : (c2, o2) ∈ all) {t0 : Tok} :
    CallX (fun b => CodeHd b 527 525) 90 w 528 [.str op t0, v, .bool false] all (fun Q E G R U s => ∀ h' tk', U all h' → Q (.bool true) { s with heap := h', toks := tk' }) := by
  intro p loose mean mg mb dp un gd cn cnm cg cc cmo a ccd cl outer A₀ base h₀ L m s Q E B F X N T XB TB hcode hdp hu hret
  have N0 := news_lc N ht (news_lc N hm1 (news_l1 N hm2))
  refine wpAny_call ?_
  k_dflt (k_extra "gc_enter")
  repeat' ((fail_if_success (with_reducible show wpAny _ _ (exec (Stmt.If (Expr.UnaryOp _ _ _) _ _ _) _) _ _ _)); (first | (k_unfold; (try dsimp only)) | (k_end; kc_close) | walk1 | (dsimp only; walk1) | (leave1; walk_say "STEP leave1"; (try dsimp only)) | fail "no step"))
  k_dflt (cases d)
  · (k_extra "t_steps3")
    k_dflt (refine' hret _ _ (turn_back ?zT ?zF ?zN ?zFG ?zhg B N N0 ?zk XB TB ?zf))
    case zF => k_asm
    case zN => k_asm
    case zhg => assumption
    case zFG => assumption
    case zT => first | assumption | exact KtsTurn.trans (by assumption) (by assumption)
    case zf => rfl
    case zk => (k_extra "my_keep")
  · obtain ⟨S, hS⟩ := hSp rfl
    have hL := Spoken.len hS
    have hK := hKA rfl
    repeat' ((fail_if_success (with_reducible show wpAny _ _ (exec (Stmt.If (Expr.Compare (Expr.Name _ _) _ _ _) _ _ _) _) _ _ _)); (first | (k_unfold; (try dsimp only)) | (k_end; kc_close) | walk1 | (dsimp only; walk1) | (leave1; walk_say "STEP leave1"; (try dsimp only)) | fail "no step"))
    k_dflt (cases hK <;> (k_extra "t_steps3"))
    all_goals (
      k_dflt (refine' hret _ _ (turn_back ?yT ?yF ?yN ?yFG ?yhg B N N0 ?yk XB TB ?yf))
      case yF => k_asm
      case yN => k_asm
      case yhg => assumption
      case yFG => assumption
      case yT => first | assumption | exact KtsTurn.trans (by assumption) (by assumption) | exact KtsTurn.trans (KtsTurn.trans (by assumption) (by assumption)) (by assumption)
      case yf => rfl
      case yk => (k_extra "my_keep"))
end
-- part R2
section
variable {w : World} {all : List (Addr × Obj)} {c1 c2 : Addr} {o1 o2 : Obj}
theorem right_mB {op : Str} {v : Value} {b d : Bool} (hop : op.length ≤ 10) (hD : Due v b) (hD2 : Due2 op v b d) (hp : Pair op v d) (hSp : d = true → ∃ S, Spoken v S) (hl1 : LamCode o1) (hl2 : LamCode o2) (ht : (525, tabFull c1 c2) ∈ all) (hm1 : (c1, o1) ∈ all) (hm2 : (c2, o2) ∈ all) {t0 : Tok} :
    CallX (fun b => CodeHd b 527 525) 90 w 528 [.str op t0, v, .bool true] all (fun Q E G R U s => ∀ h' tk', U all h' → Q (.bool true) { s with heap := h', toks := tk' }) := by
  intro p loose mean mg mb dp un gd cn cnm cg cc cmo a ccd cl outer A₀ base h₀ L m s Q E B F X N T XB TB hcode hdp hu hret
  have N0 := news_lc N ht (news_lc N hm1 (news_l1 N hm2))
  refine wpAny_call ?_
  k_dflt (k_extra "gc_enter")
  repeat' ((fail_if_success (with_reducible show wpAny _ _ (exec (Stmt.If (Expr.UnaryOp _ _ _) _ _ _) _) _ _ _)); (first | (k_unfold; (try dsimp only)) | (k_end; kc_close) | walk1 | (dsimp only; walk1) | (leave1; walk_say "STEP leave1"; (try dsimp only)) | fail "no step"))
  k_dflt (cases d)
  · (k_extra "t_steps3")
    k_dflt (refine' hret _ _ (turn_back ?zT ?zF ?zN ?zFG ?zhg B N N0 ?zk XB TB ?zf))
    case zF => k_asm
    case zN => k_asm
    case zhg => assumption
    case zFG => assumption
    case zT => first | assumption | exact KtsTurn.trans (by assumption) (by assumption)
    case zf => rfl
    case zk => (k_extra "my_keep")
  · obtain ⟨S, hS⟩ := hSp rfl
    have hL := Spoken.len hS
    (k_extra "t_steps3")
    k_dflt (refine' hret _ _ (turn_back ?yT ?yF ?yN ?yFG ?yhg B N N0 ?yk XB TB ?yf))
    case yF => k_asm
    case yN => k_asm
    case yhg => assumption
    case yFG => assumption
    case yT => first | assumption | exact KtsTurn.trans (by assumption) (by assumption) | exact KtsTurn.trans (KtsTurn.trans (by assumption) (by assumption)) (by assumption)
    case yf => rfl
    case yk => (k_extra "my_keep")
end
-- part RF
theorem wd38 : True := by
  (k_with "my_isl_ok" => (
      (k_here; k_dflt (refine' ((isl_ok ?hfnw150x ?Hw150x)) _ _ _ _ _ _ _ _ _ _ _ _ _ _ _ _ _ _ _ _ _ _ _ _ _ ?k1z150xw150x ?k2z150xw150x ?k3z150xw150x ?k4z150xw150x ?k5z150xw150x ?k8z150xw150x ?k9z150xw150x ?kdz150xw150x ?kuz150xw150x ?_; (case k1z150xw150x => k_asm); (case k2z150xw150x => k_asm); (case k3z150xw150x => k_asm); (case k4z150xw150x => k_asm); (case k5z150xw150x => k_asm); (case k8z150xw150x => assumption); (case k9z150xw150x => assumption); (case kdz150xw150x => (k_extra "my_room")); (case kuz150xw150x => (k_extra "my_units"))))
      case hfnw150x => (intro h9w L9w h8 N9w; exact FnAt.of N9w (by k_mem))
      case Hw150x => (k_extra "my_lam_ok")
      (intro h'w tk'w G'w; (obtain ⟨F'w, N'w⟩ := G'w); (replace N'w := news_tl N'w); (try dsimp only); (try k_sweep))))
  (k_with "call ref" => ((with_reducible show wpAny _ _ (call (Value.ref 516) _) _ _ _); (have hp9w := ‹Pair _ _ true›); clear hp9w; k_dflt (k_extra "my_isl_ok")))
  trivial
section
variable {w : World} {all : List (Addr × Obj)}
theorem right_first0 {n : Int} {t0 t : Tok} (h1 : 0 - 2 ^ Int.toNat 512 < n) (h2 : n < 2 ^ Int.toNat 512) (hoff : LCg.Off1 525 all) :
    CallX (fun b => CodeHd b 527 525) 90 w 528 [.str "push" t0, .int n t, .bool false] ((525, tabObj #[]) :: all) (fun Q E G R U s => ∀ c1 c2 o1 o2 h' tk', LamCode o1 → LamCode o2 → U ((c1, o1) :: (c2, o2) :: (525, tabFull c1 c2) :: all) h' → LCg.Off1 c1 ((525, tabObj #[]) :: all) → LCg.Off1 c2 ((525, tabObj #[]) :: all) → Q (.bool true) { s with heap := h', toks := tk' }) := by
  intro p loose mean mg mb dp un gd cn cnm cg cc cmo a ccd cl outer A₀ base h₀ L m s Q E B F X N T XB TB hcode hdp hu hret
  have hp := Pair.int n t
  rw [decide_eq_true ((bits_iff n).mpr ⟨h1, h2⟩)] at hp
  have hn : n.natAbs < 10 ^ 160 := small_of h1 h2
  have hS := Spoken.int n t hn
  have hv9 : handedIn (.int n t) = true := rfl
  refine wpAny_call ?_
  k_dflt (k_extra "gc_enter")
  (k_extra "t_steps3")
  refine' hret _ _ _ _ _ _ ?hc1 ?hc2 (u_of_g B X T ?hB) ?o1 ?o2
  case hB =>
    refine' back_sub F ?zG (by k_asm) (by k_asm) (mem3 ?z3 ?z1 ?z2 ?z4)
    case zG => assumption
    case z3 => k_dflt k_mem
    case z1 => k_mem
    case z2 => k_mem
    case z4 => (intro p9 hp9; (k_extra "my_tail"))
  case hc1 => exact lam_code (by assumption) (by assumption) (by first | rfl | kernel_rfl)
  case hc2 => exact lam_code (by assumption) (by assumption) (by first | rfl | kernel_rfl)
  case o1 => exact ⟨by k_ne, off1_of_lt (pickA (by assumption) (by (k_extra "my_pick")))⟩
  case o2 => exact ⟨by k_ne, off1_of_lt (pickA (by assumption) (by (k_extra "my_pick")))⟩
end
-- part RS2
section
variable {w : World} {all : List (Addr × Obj)}
theorem push_len : (Str.ofString "push").length ≤ 10 := by decide
theorem arg_len : (Str.ofString "arg").length ≤ 10 := by decide
theorem right_m {op : Str} {v : Value} {b d : Bool} (hop : op.length ≤ 10) (hD : Due v b) (hD2 : Due2 op v b d) (hp : Pair op v d) (hSp : d = true → ∃ S, Spoken v S) (hKA : d = true → KA op v) {c1 c2 : Addr} {o1 o2 : Obj} (hl1 : LamCode o1) (hl2 : LamCode o2) (ht : (525, tabFull c1 c2) ∈ all) (hm1 : (c1, o1) ∈ all) (hm2 : (c2, o2) ∈ all) {ar : Bool} {t0 : Tok} :
    CallX (fun b => CodeHd b 527 525) 90 w 528 [.str op t0, v, .bool ar] all (fun Q E G R U s => ∀ h' tk', U all h' → Q (.bool true) { s with heap := h', toks := tk' }) := by
  cases ar
  · exact right_mA hop hD hD2 hp hSp hKA hl1 hl2 ht hm1 hm2
  · exact right_mB hop hD hD2 hp hSp hl1 hl2 ht hm1 hm2
theorem noF {P : Prop} : false = true → P := fun h => nomatch h
theorem right_c {op : Str} {v : Value} (ha : RArg op v) {c1 c2 : Addr} {o1 o2 : Obj} (hl1 : LamCode o1) (hl2 : LamCode o2) (ht : (525, tabFull c1 c2) ∈ all) (hm1 : (c1, o1) ∈ all) (hm2 : (c2, o2) ∈ all) {ar : Bool} {t0 : Tok} :
    CallX (fun b => CodeHd b 527 525) 90 w 528 [.str op t0, v, .bool ar] all (fun Q E G R U s => ∀ h' tk', U all h' → Q (.bool true) { s with heap := h', toks := tk' }) := by
  cases ha with
  | int n t =>
    have hp := Pair.int n t
    by_cases h1 : 0 - 2 ^ Int.toNat 512 < n
    · by_cases h2 : n < 2 ^ Int.toNat 512
      · rw [decide_eq_true ((bits_iff n).mpr ⟨h1, h2⟩)] at hp
        exact right_m push_len (.mid n t h1 h2) .push hp (fun _ => ⟨_, Spoken.int n t (small_of h1 h2)⟩) (fun _ => .push _ rfl) hl1 hl2 ht hm1 hm2
      · rw [decide_eq_false (fun h => h2 ((bits_iff n).mp h).2)] at hp
        exact right_m push_len (.hi n t h1 h2) .no hp noF noF hl1 hl2 ht hm1 hm2
    · rw [decide_eq_false (fun h => h1 ((bits_iff n).mp h).1)] at hp
      exact right_m push_len (.lo n t h1) .no hp noF noF hl1 hl2 ht hm1 hm2
  | str x t hx hl =>
    have hp := Pair.str x t hx
    by_cases h : (x.length : Int) ≤ 2000
    · rw [decide_eq_true h] at hp
      exact right_m push_len (.short x t hx h) .push hp (fun _ => ⟨_, Spoken.str x t hx hl⟩) (fun _ => .push _ rfl) hl1 hl2 ht hm1 hm2
    · rw [decide_eq_false h] at hp
      exact right_m push_len (.long x t hx h) .no hp noF noF hl1 hl2 ht hm1 hm2
  | arg n t =>
    have hp := Pair.arg n t
    by_cases h1 : 0 - 2 ^ Int.toNat 512 < n
    · by_cases h2 : n < 2 ^ Int.toNat 512
      · rw [decide_eq_true ((bits_iff n).mpr ⟨h1, h2⟩), Bool.true_and] at hp
        by_cases h3 : 1 ≤ n
        · rw [decide_eq_true h3] at hp
          refine right_m arg_len (.mid n t h1 h2) (.arg n t h3) hp (fun _ => ⟨_, Spoken.int n t (small_of h1 h2)⟩) (fun _ => ?_) hl1 hl2 ht hm1 hm2
          by_cases h4 : 4 ≤ n
          · exact .far n t h4 (small_of h1 h2) (by omega)
          · by_cases e1 : n = 1
            · exact .one n t e1 (by omega) (by omega)
            · by_cases e2 : n = 2
              · exact .two n t e2 (by omega) (by omega)
              · exact .three n t (by omega) (by omega) (by omega)
        · rw [decide_eq_false h3] at hp
          exact right_m arg_len (.mid n t h1 h2) (.less n t h3) hp noF noF hl1 hl2 ht hm1 hm2
      · rw [decide_eq_false (fun h => h2 ((bits_iff n).mp h).2), Bool.false_and] at hp
        exact right_m arg_len (.hi n t h1 h2) .no hp noF noF hl1 hl2 ht hm1 hm2
    · rw [decide_eq_false (fun h => h1 ((bits_iff n).mp h).1), Bool.false_and] at hp
      exact right_m arg_len (.lo n t h1) .no hp noF noF hl1 hl2 ht hm1 hm2
end
-- part RS3
section
variable {w : World} {all : List (Addr × Obj)}
theorem off1_of {d : Addr} {l : List (Addr × Obj)} (h : ∀ q ∈ l, q.1 ≠ d) : LCg.Off1 d l := by
  induction l with
  | nil => trivial
  | cons a r ih => exact ⟨h a (.head _), ih fun q hq => h q (.tail _ hq)⟩
theorem mem_mid {own rest : List (Addr × Obj)} {x q : Addr × Obj} (h : q ∈ own ++ x :: rest) : q = x ∨ q ∈ own ++ rest := by
  rcases List.mem_append.mp h with h | h
  · exact .inr (List.mem_append_left _ h)
  · rcases List.mem_cons.mp h with h | h
    · exact .inl h
    · exact .inr (List.mem_append_right _ h)
theorem right_first {n : Int} {t0 t : Tok} {g : Obj → List (Addr × Obj)} (h1 : 0 - 2 ^ Int.toNat 512 < n) (h2 : n < 2 ^ Int.toNat 512) (hU : UpdF 525 (tabObj #[]) all g) :
    CallX (fun b => CodeHd b 527 525) 90 w 528 [.str (Str.ofString "push") t0, .int n t, .bool false] all (fun Q E G R U s => ∀ c1 c2 o1 o2 h' tk', LamCode o1 → LamCode o2 → U ((c1, o1) :: (c2, o2) :: g (tabFull c1 c2)) h' → LCg.Off1 c1 all → LCg.Off1 c2 all → Q (.bool true) { s with heap := h', toks := tk' }) := by
  intro p loose mean mg mb dp un gd cn cnm cg cc cmo a ccd cl outer A₀ base h₀ L m s Q E B F X N T XB TB hcode hdp hu hret
  obtain ⟨own, rest, rfl, hg, x1, x2⟩ := hU.split
  have off : LCg.Off1 525 (own ++ rest) := off1_of fun q hq => (List.mem_append.mp hq).elim (x1 q) (x2 q)
  have perm : ∀ q ∈ (525, tabObj #[]) :: (own ++ rest), q ∈ own ++ (525, tabObj #[]) :: rest := fun q hq => by
    rcases List.mem_cons.mp hq with rfl | hq
    · exact List.mem_append_right _ (.head _)
    · exact (List.mem_append.mp hq).elim (fun z => List.mem_append_left _ z) fun z => List.mem_append_right _ (.tail _ z)
  refine right_first0 h1 h2 off p loose mean mg mb dp un gd cn cnm cg cc cmo a ccd cl outer A₀ base h₀ L m s Q E B F X (fun q hq => N q (perm q hq)) T XB TB hcode hdp hu fun c1 c2 o1 o2 h' tk' l1 l2 u f1 f2 => ?_
  obtain ⟨g₁, TT, F1, N1, B1, X1, T1⟩ := u
  refine hret c1 c2 o1 o2 h' tk' l1 l2 ⟨g₁, TT, F1, fun q hq => N1 q ?_, B1, X1, T1⟩ (off1_of fun q hq => ?_) (off1_of fun q hq => ?_)
  · rcases List.mem_cons.mp hq with rfl | hq
    · exact .head _
    rcases List.mem_cons.mp hq with rfl | hq
    · exact .tail _ (.head _)
    rw [hg] at hq
    rcases mem_mid hq with rfl | hq
    · exact .tail _ (.tail _ (.head _))
    · exact .tail _ (.tail _ (.tail _ hq))
  · rcases mem_mid hq with rfl | hq
    · exact off1_ne f1 _ (.head _)
    · exact off1_ne f1 _ (.tail _ hq)
  · rcases mem_mid hq with rfl | hq
    · exact off1_ne f2 _ (.head _)
    · exact off1_ne f2 _ (.tail _ hq)
end
-- part Lw
theorem turn_nil0 {h₀ h₁ h' : Heap} {L : Addr} {m : Str → Option Value} {nw : List (Addr × Obj)} (T : KtsTurn (fsOf []) h₀ h₁) (F : Fr h₁ L h' m) (N : News h₁ L h' nw) : Fr h₀ L h' m ∧ News h₀ L h' nw := turn_nil T F N
section
variable {w : World} {all : List (Addr × Obj)}
theorem draw_u {P : Addr} {k : Nat} {a b m : Int} {ta tb tm : Tok} {g : Obj → List (Addr × Obj)} (hU : UpdF P (PySem.W.listOf #[.int a ta, .int b tb] k) all g) (ha : 0 ≤ a) (ha2 : a < 10 ^ 300) (hb : 0 ≤ b) (hb2 : b ≤ 1000) (hm : 2 ≤ m) (hm2 : m ≤ 5000) :
    Call 20 w 509 [.ref P, .int m tm] all (fun Q E G R U s => ∀ d a' b' td ta' tb' k' h' tk', 0 ≤ d → d < m → 0 ≤ a' → a' < 10 ^ 300 → b ≤ b' → b' ≤ b + 1 →
      G (g (PySem.W.listOf #[.int a' ta', .int b' tb'] k')) h' → Q (.int d td) { s with heap := h', toks := tk' }) := by
  intro p loose mean mg mb dp un gd cn cnm cg cc cmo a9 ccd cl outer A₀ base h₀ L m₀ s Q E B F X N T XB TB hdp hu hret
  obtain ⟨own, rest, rfl, hg, h1, h2⟩ := hU.split
  have off : LCg.Off1 P (own ++ rest) := by
    have one : ∀ q ∈ own ++ rest, q.1 ≠ P := fun q hq => (List.mem_append.mp hq).elim (h1 q) (h2 q)
    clear N hret h1 h2 hg hU
    generalize own ++ rest = l at one ⊢
    induction l with
    | nil => trivial
    | cons c r ih => exact ⟨one c (.head _), ih fun q hq => one q (.tail _ hq)⟩
  refine draw_c (all := own ++ rest) (k := k) (ta := ta) (tb := tb) ha ha2 hb hb2 hm hm2 off p loose mean mg mb dp un gd cn cnm cg cc cmo a9 ccd cl outer A₀ base h₀ L m₀ s Q E B F X (fun q hq => N q ?_) T XB TB hdp hu (fun d a' b' td ta' tb' k' h' tk' x1 x2 x3 x4 x5 x6 G' => hret d a' b' td ta' tb' k' h' tk' x1 x2 x3 x4 x5 x6 ⟨G'.1, fun q hq => G'.2 q ?_⟩)
  · rcases List.mem_cons.mp hq with rfl | hq
    · exact List.mem_append_right _ (.head _)
    · exact (List.mem_append.mp hq).elim (fun x => List.mem_append_left _ x) fun x => List.mem_append_right _ (.tail _ x)
  · rw [hg] at hq
    rcases List.mem_append.mp hq with hq | hq
    · exact .tail _ (List.mem_append_left _ hq)
    · rcases List.mem_cons.mp hq with rfl | hq
      · exact .head _
      · exact .tail _ (List.mem_append_right _ hq)
end
theorem wd39 : True := by
  (k_with "call ref" => ((with_reducible show wpAny _ _ (call (Value.ref 502) _) _ _ _); k_dflt (((k_here; k_dflt (refine' ((pen_c ?hiw153x ?hlenw153x)) _ _ _ _ _ _ _ _ _ _ _ _ _ _ _ _ _ _ _ _ _ _ _ _ _ ?k1z153xw153x ?k2z153xw153x ?k3z153xw153x ?k4z153xw153x ?k5z153xw153x ?k8z153xw153x ?k9z153xw153x ?kCz153xw153x ?kdz153xw153x ?kuz153xw153x ?_; (case k1z153xw153x => k_asm); (case k2z153xw153x => k_asm); (case k3z153xw153x => k_asm); (case k4z153xw153x => k_asm); (case k5z153xw153x => k_asm); (case k8z153xw153x => assumption); (case k9z153xw153x => assumption); (case kCz153xw153x => assumption); (case kdz153xw153x => (k_extra "my_room")); (case kuz153xw153x => (k_extra "my_units"))))); (case hiw153x => assumption); (case hlenw153x => omega)); intro D'w a'w b'w ta'w tb'w k'w h'w tk'w ha'w ha2'w hb'w hb2'w G'w o1'w; (obtain ⟨F'w, N'w⟩ := G'w); (try dsimp only); (try k_sweep)))
  (k_with "call ref" => ((with_reducible show wpAny _ _ (call (Value.ref 509) _) _ _ _); k_dflt (((k_here; k_dflt (refine' ((draw_u ?Uw155x ?a1w155x ?a2w155x ?a3w155x ?a4w155x ?a5w155x ?a6w155x)) _ _ _ _ _ _ _ _ _ _ _ _ _ _ _ _ _ _ _ _ _ _ _ _ _ ?k1z155xw155x ?k2z155xw155x ?k3z155xw155x ?k4z155xw155x ?k5z155xw155x ?k8z155xw155x ?k9z155xw155x ?kdz155xw155x ?kuz155xw155x ?_; (case k1z155xw155x => k_asm); (case k2z155xw155x => k_asm); (case k3z155xw155x => k_asm); (case k4z155xw155x => k_asm); (case k5z155xw155x => k_asm); (case k8z155xw155x => assumption); (case k9z155xw155x => assumption); (case kdz155xw155x => (k_extra "my_room")); (case kuz155xw155x => (k_extra "my_units"))))); (case Uw155x => k_updF); (case a1w155x => assumption); (case a2w155x => assumption); (case a3w155x => omega); (case a4w155x => omega); (case a5w155x => decide); (case a6w155x => decide)); intro d'w a'w b'w td'w ta'w tb'w k'w h'w tk'w hd0'w hd1'w ha'w ha2'w hb'w hb2'w G'w; (obtain ⟨F'w, N'w⟩ := G'w); (try dsimp only at N'w); (try dsimp only); (try k_sweep)))
  (k_with "lw_first" => (
      k_dflt ((k_here; k_dflt (refine' ((right_first ?h1w157x ?h2w157x ?Uw157x)) _ _ _ _ _ _ _ _ _ _ _ _ _ _ _ _ _ _ _ _ _ _ _ _ _ ?k1z157xw157x ?k2z157xw157x ?k3z157xw157x ?k4z157xw157x ?k5z157xw157x ?k8z157xw157x ?k9z157xw157x ?kCz157xw157x ?kdz157xw157x ?kuz157xw157x ?_; (case k1z157xw157x => k_asm); (case k2z157xw157x => k_asm); (case k3z157xw157x => k_asm); (case k4z157xw157x => k_asm); (case k5z157xw157x => k_asm); (case k8z157xw157x => assumption); (case k9z157xw157x => assumption); (case kCz157xw157x => assumption); (case kdz157xw157x => (k_extra "my_room")); (case kuz157xw157x => (k_extra "my_units")))))
      case Uw157x => k_updF
      case h1w157x => decide
      case h2w157x => decide
      intro c1'w c2'w o1'w o2'w h'w tk'w hc1'w hc2'w U'w off1'w off2'w
      obtain ⟨g'w, TT'w, F1'w, N1'w, B1'w, X1'w, T1'w⟩ := U'w
      obtain ⟨F'w, N'w⟩ := turn_nil0 TT'w F1'w N1'w
      clear TT'w F1'w N1'w B1'w X1'w T1'w
      try dsimp only at N'w
      try dsimp only
      try k_sweep))
  (k_with "lw_arg" => with_reducible first
      | exact RArg.int _ _
      | exact RArg.arg _ _
      | (refine' RArg.str _ _ ?hx9w158x ?hl9w158x; (case hl9w158x => (refine lay_str (ok_mul ?ho9w158x) ?hn9w158x; (case ho9w158x => first | exact ok_a | exact ok_item ok_menu); (case hn9w158x => omega))); (case hx9w158x => omega)))
  (k_with "lw_next" => (
      k_dflt ((k_here; k_dflt (refine' ((right_c ?haw160x ?hl1w160x ?hl2w160x ?htw160x ?hm1w160x ?hm2w160x)) _ _ _ _ _ _ _ _ _ _ _ _ _ _ _ _ _ _ _ _ _ _ _ _ _ ?k1z160xw160x ?k2z160xw160x ?k3z160xw160x ?k4z160xw160x ?k5z160xw160x ?k8z160xw160x ?k9z160xw160x ?kCz160xw160x ?kdz160xw160x ?kuz160xw160x ?_; (case k1z160xw160x => k_asm); (case k2z160xw160x => k_asm); (case k3z160xw160x => k_asm); (case k4z160xw160x => k_asm); (case k5z160xw160x => k_asm); (case k8z160xw160x => assumption); (case k9z160xw160x => assumption); (case kCz160xw160x => assumption); (case kdz160xw160x => (k_extra "my_room")); (case kuz160xw160x => (k_extra "my_units")))))
      case htw160x => k_mem
      case hm1w160x => k_mem
      case hm2w160x => k_mem
      case hl1w160x => assumption
      case hl2w160x => assumption
      case haw160x => (k_extra "lw_arg")
      intro h'w tk'w U'w
      obtain ⟨g'w, TT'w, F1'w, N1'w, B1'w, X1'w, T1'w⟩ := U'w
      obtain ⟨F'w, N'w⟩ := turn_nil0 TT'w F1'w N1'w
      clear TT'w F1'w N1'w B1'w X1'w T1'w
      try dsimp only at N'w
      try dsimp only
      try k_sweep))
  (k_with "call ref" => ((with_reducible show wpAny _ _ (call (Value.ref 528) _) _ _ _); first | k_dflt (k_extra "lw_first") | k_dflt (k_extra "lw_next")))
  (k_with "exec For Tuple BinOp" => (k_here; (rename Fr _ _ _ _ => lF'w); (with_unfolding_all refine' For_turns lF'w ?_; k_whole)))
  trivial
section
variable {prog : Program} {w : World} {A : Around} {E : Value → Shared → Prop} {s : Shared} {env : Env} {h₀ : Heap} {x : Str} {body : List Stmt} {Q : Flow → Shared → Prop}
/-- a loop over a range, by an invariant of the turn's number -/
theorem range_inv {r : Addr} {a₀ b₀ : Int} {t₀ u₀ v₀ : Tok} {n : Nat} {m₀ : Str → Option Value} {news : List (Addr × Obj)}
    (J : Nat → (Str → Option Value) → List (Addr × Obj) → Prop)
    (hh : A.handled = none) (hr : IsRange s.heap r a₀ b₀ 1 t₀ u₀ v₀) (hsmall : Builtin.Range.small a₀ b₀ 1 = true) (hn : Builtin.Range.rangeSize a₀ b₀ 1 = (n : Int)) (F : Fr h₀ env.locals s.heap m₀) (N : News h₀ env.locals s.heap news) (hj : J 0 m₀ news)
    (turn : ∀ i t m₁ nx h tk own, i < n → nx.map (·.1) = news.map (·.1) → OwnOff own (news.map (·.1)) → J i m₁ nx → Fr h₀ env.locals h (fun y => if y = x then some (.int (a₀ + (i : Int)) t) else m₁ y) → News h₀ env.locals h (nx ++ own) →
      wpAny (model prog w) A (execs body env) (InvPostN h₀ env.locals (J (i + 1)) own (news.map (·.1)) { s with heap := h, toks := tk } Q) E { s with heap := h, toks := tk })
    (done : ∀ m₁ nx h tk, J n m₁ nx → Fr h₀ env.locals h m₁ → News h₀ env.locals h nx → Q .next { s with heap := h, toks := tk }) :
    wpAny (model prog w) A (pyIter (.ref r)) (fun it s₂ => LoopAtV prog w A h₀ env x body Q E it s₂) E s := by
  refine wpAny_pyIter_range hr hsmall ?_
  have W : Walks prog w A s.heap.objs.size [s.heap.objs.size] [s.heap.objs.size] n (fun i v => i < n ∧ ∃ t, v = .int (a₀ + i * 1) t)
      (fun i h => IsRangeIter h s.heap.objs.size (a₀ + (i : Nat) * 1) ((n : Int) - (i : Nat)) 1) := (Walks.range hh _ a₀ 1 n).bound
  have one : ∀ b, b ∈ [s.heap.objs.size] → b = s.heap.objs.size := fun b hb => List.mem_singleton.mp hb
  refine loop_invN J W (fun hm => Nat.lt_irrefl _ (Nat.lt_of_lt_of_eq F.ns.lt (one _ hm).symm)) (fun b hb => one b hb ▸ next_is_new F) (fun p hp hI => Nat.lt_irrefl _ (Nat.lt_of_lt_of_eq (Heap.lt_size (N p hp).1) (one _ hI).symm)) (fun p hp hI => Nat.lt_irrefl _ (Nat.lt_of_lt_of_eq (Heap.lt_size (N p hp).1) (one _ hI).symm))
    (by show IsRangeIter _ _ _ _ _; rw [hn]; simpa using Heap.get?_push_size _ rfl) (F.push _) (fun p hp => ⟨Heap.get?_push_of_some _ (N p hp).1, (N p hp).2⟩) hj ?_ ?_
  · rintro i v m₁ nx h tk own hi ⟨_, t, rfl⟩ hnx ho hJ F' N'
    rw [Int.mul_one] at F'
    exact turn i t m₁ nx h tk own hi hnx ho hJ F' N'
  · exact done
end
theorem pen_map {m : Str → Option Value} {P : Addr} (h : m (Str.ofString "pen") = some (.ref P)) : m = fun y => if y = Str.ofString "pen" then some (.ref P) else m y := by
  funext y
  split
  · rename_i e; rw [e, h]
  · rfl
/-- what stands between two turns of the law's second loop -/
def PenInv (P : Addr) (rest : List (Addr × Obj)) (i : Nat) (m : Str → Option Value) (nx : List (Addr × Obj)) : Prop :=
  ∃ (a b : Int) (ta tb : Tok) (k : Nat) (u : Str → Option Value), a < 10 ^ 300 ∧ 0 ≤ a ∧ 0 ≤ b ∧ b ≤ 30 + 10 * (i : Int) ∧ m = (fun y => if y = Str.ofString "pen" then some (.ref P) else u y) ∧ nx = (P, PySem.W.listOf #[.int a ta, .int b tb] k) :: rest
theorem pen_start0 {P : Addr} {rest : List (Addr × Obj)} {m : Str → Option Value} {a b : Int} {ta tb : Tok} {k : Nat} (hm : m (Str.ofString "pen") = some (.ref P)) (ha2 : a < 10 ^ 300) (ha : 0 ≤ a) (hb : 0 ≤ b) (hb2 : b ≤ 30) :
    PenInv P rest 0 m ((P, PySem.W.listOf #[.int a ta, .int b tb] k) :: rest) := ⟨a, b, ta, tb, k, _, ha2, ha, hb, by simpa using hb2, pen_map hm, rfl⟩
theorem pen_next {P : Addr} {rest : List (Addr × Obj)} {m : Str → Option Value} {a b : Int} {ta tb : Tok} {k i : Nat} (hm : m (Str.ofString "pen") = some (.ref P)) (ha2 : a < 10 ^ 300) (ha : 0 ≤ a) (hb : 0 ≤ b) (hb2 : b ≤ 30 + 10 * (i : Int) + 10) :
    PenInv P rest (i + 1) m ((P, PySem.W.listOf #[.int a ta, .int b tb] k) :: rest) := ⟨a, b, ta, tb, k, _, ha2, ha, hb, by omega, pen_map hm, rfl⟩
theorem off1_own {P : Addr} {own rest : List (Addr × Obj)} {l : List Addr} (ho : OwnOff own l) (hP : P ∈ l) (hr : LCg.Off1 P rest) : LCg.Off1 P (rest ++ own) := by
  have one : ∀ q ∈ rest ++ own, q.1 ≠ P := fun q hq => (List.mem_append.mp hq).elim (off1_ne hr q) fun h => ho q h P hP
  generalize rest ++ own = z at one
  clear hr ho hP
  induction z with
  | nil => trivial
  | cons c r ih => exact ⟨one c (.head _), ih fun q hq => one q (.tail _ hq)⟩
/-- an item of a written list of ints at a place that lies in it -/
theorem my_menu {prog : Program} {w : World} {A : Around} {E : Value → Shared → Prop} {s : Shared} {h₀ : Heap} {L l : Addr} {news : List (Addr × Obj)} {vs : List Value} {n : Nat} {value slice : PySem.Expr} {k : Int} {u : Tok} {Q : Value → Shared → Prop} (N : News h₀ L s.heap news) (hm : (l, PySem.W.listOf vs.toArray n) ∈ news)
    (h0 : 0 ≤ k) (hk : k < (vs.length : Int)) (hv : vs.length < 100) (hall : ∀ v ∈ vs, ∃ i t, v = .int i t) (h : ∀ i t, (.int i t) ∈ vs → Q (.int i t) s)
    (hs : subscripted slice false (.ref l) (.int k u) = operate [.ref l, .int k u] (getItem (.ref l) (.int k u)) := by with_unfolding_all rfl) :
    wpAny (model prog w) A (subscriptTail value slice (.ref l) (.int k u)) Q E s := by
  have hlt : k.toNat < vs.length := by omega
  obtain ⟨i, t, e⟩ := hall vs[k.toNat] (List.getElem_mem hlt)
  refine my_item N hm h0 (by omega) (v := .int i t) (by rw [List.getElem?_eq_getElem hlt, e]) (h i t (e ▸ List.getElem_mem hlt)) hs
theorem wd40 : True := by
  (k_with "subscriptTail List cons Call ref int" => k_dflt (
      k_here
      (refine' my_menu ?uNw163x ?umw163x ?uaw163x ?ubw163x ?ucw163x ?udw163x ?_ ?usw163x)
      case uNw163x => k_asm
      case umw163x => k_mem
      case uaw163x => omega
      case ubw163x => (simp only [List.length_cons, List.length_nil]; omega)
      case ucw163x => (simp only [List.length_cons, List.length_nil]; omega)
      case udw163x => (intro v9w hv9w; simp only [List.mem_cons, List.not_mem_nil, or_false] at hv9w; (repeat (rcases hv9w with h9w | hv9w; (exact ⟨_, _, h9w⟩))); exact ⟨_, _, hv9w⟩)
      case usw163x => with_unfolding_all rfl
      intro i9w t9w hi9w
      try (first | (have hb9w : 1 ≤ i9w ∧ i9w ≤ 2001 := by (simp only [List.mem_cons, List.not_mem_nil, or_false, Value.int.injEq] at hi9w; omega)) | (have hb9w : 0 ≤ i9w ∧ i9w ≤ 9000 := by (simp only [List.mem_cons, List.not_mem_nil, or_false, Value.int.injEq] at hi9w; omega)) | (have hb9w : -1 ≤ i9w ∧ i9w ≤ 1 := by (simp only [List.mem_cons, List.not_mem_nil, or_false, Value.int.injEq] at hi9w; omega)))
      clear hi9w))
  (k_with "binaryOp Mult str int" => (k_here; (with_reducible show wpAny _ _ (binaryOp Operator.Mult (Value.str (Txt.item _ _) _) (Value.int _ _)) _ _ _); k_dflt (refine KXi.mul (n := 1) (by assumption) (by decide) (by omega) (by omega) ?_); intro t9w k9w kxiZ kxiN))
  (k_with "InvEndN" => (k_dflt (refine' ⟨_, _, _, _, _, rfl, ?F9w165x, ?N9w165x, ?hn9w165x, ?ho9w165x, ?he9w165x, pen_next ?hm9w165x ?ha29w165x ?ha9w165x ?hb9w165x ?hb29w165x⟩; (case F9w165x => k_asm); (case N9w165x => k_asm); (case hm9w165x => rfl); (case hn9w165x => (k_extra "my_keep")); (case ho9w165x => (k_extra "my_keep")); (case ha29w165x => assumption); (case ha9w165x => assumption); (case hb9w165x => omega); (case hb29w165x => omega); (case he9w165x => rfl))))
  trivial
-- part Li
theorem allObj_mono : ∀ {ws : List (Addr × String)} {k k' : List (Addr × Obj) → Prop}, (∀ its, k its → k' its) → AllObj ws k → AllObj ws k'
  | [], _, _, f, h => f _ h
  | _ :: _, _, _, f, h => fun o e => allObj_mono (fun its => f _) (h o e)
section
variable {prog : Program} {w : World} {A : Around} {E : Value → Shared → Prop} {s : Shared} {env : Env} {h₀ : Heap} {target : PySem.Expr} {body : List Stmt} {Q : Flow → Shared → Prop}
theorem unr_mono {L : Addr} {s₁ : Shared} {its : List (Addr × Obj)} {r r' : (Str → Option Value) → List (Addr × Obj) → Prop} (f : ∀ m n, r m n → r' m n) {fl : Flow} {s₂ : Shared} (h : UnrPostW h₀ L s₁ its r Q fl s₂) : UnrPostW h₀ L s₁ its r' Q fl s₂ := by
  cases fl with
  | ret v => exact h
  | brk => exact h
  | next =>
    obtain ⟨h', tk, m', n', e, F, N, o, x⟩ := h
    exact ⟨h', tk, m', n', e, F, N, o, f _ _ x⟩
  | cont =>
    obtain ⟨h', tk, m', n', e, F, N, o, x⟩ := h
    exact ⟨h', tk, m', n', e, F, N, o, f _ _ x⟩
/-- a loop over items, by what holds between two turns -/
theorem rest_inv {ws : List (Addr × String)} {keep : List (Addr × Obj)} (J : (Str → Option Value) → List (Addr × Obj) → Prop) (P : Itm → Prop)
    (turn : ∀ a v h tk m n, P a → a.Is v h → J m n → Fr h₀ env.locals h m → AllObj ws (fun its => News h₀ env.locals h (its ++ n) →
      wpAny (model prog w) A (assign target env v) (fun _ s₂ => wpAny (model prog w) A (execs body env) (UnrPostW h₀ env.locals { s with heap := h, toks := tk } its (fun m' n' => SubL keep n' ∧ J m' n') Q) E s₂) E { s with heap := h, toks := tk }))
    (done : ∀ m n h tk, J m n → Fr h₀ env.locals h m → News h₀ env.locals h n → Q .next { s with heap := h, toks := tk }) :
    ∀ {xs : List Itm} {m : Str → Option Value} {n : List (Addr × Obj)}, (∀ a ∈ xs, P a) → J m n → ItemsRest prog w A E h₀ env target body Q s ws keep xs m n
  | [], m, n, _, j => fun h tk F N => done m n h tk j F N
  | a :: xs, m, n, hp, j => fun v h tk e F => by
    refine allObj_mono (fun its k N => ?_) (turn a v h tk m n (hp a (.head _)) e j F)
    refine wpAny_mono (k N) (fun _ s₂ h₂ => wpAny_mono h₂ (fun f s₃ p => unr_mono (fun m' n' x => ⟨x.1, rest_inv J P turn done (fun v hv => hp v (.tail _ hv)) x.2⟩) p) fun _ _ x => x) fun _ _ x => x
/-- the law's first loop behind its first turn: what stands (pre: the pen, the table; R: the tuples) stands again -/
theorem rest_pen {I P : Addr} {keep pre R : List (Addr × Obj)} {xs : List Itm} {m : Str → Option Value} (hoff : ∀ q ∈ pre ++ R, q.1 ≠ I) (hs : ∀ q ∈ keep, q ∈ pre)
    (turn : ∀ R T op t val h tk m o', (∀ q ∈ pre ++ R, q.1 ≠ I) → (T, tupO [.str op t, val]) ∈ R → RArg op val → m (Str.ofString "pen") = some (.ref P) → Fr h₀ env.locals h m → News h₀ env.locals h ((T, tupO [.str op t, val]) :: (I, o') :: (pre ++ R)) →
      wpAny (model prog w) A (assign target env (.ref T)) (fun _ s₂ => wpAny (model prog w) A (execs body env) (UnrPostW h₀ env.locals { s with heap := h, toks := tk } [(I, o')] (fun m' n' => n' = pre ++ R ∧ m' (Str.ofString "pen") = some (.ref P)) Q) E s₂) E { s with heap := h, toks := tk })
    (done : ∀ m h tk, m (Str.ofString "pen") = some (.ref P) → Fr h₀ env.locals h m → News h₀ env.locals h pre → Q .next { s with heap := h, toks := tk })
    (hx : ∀ a ∈ xs, ∃ T op t val, a = .val (.ref T) ∧ (T, tupO [.str op t, val]) ∈ R ∧ RArg op val) (hm : m (Str.ofString "pen") = some (.ref P)) :
    ItemsRest prog w A E h₀ env target body Q s [(I, "list_iterator")] keep xs m (pre ++ R) := by
  have sub : ∀ {l : List (Addr × Obj)}, (∀ q ∈ l, q ∈ pre) → SubL l (pre ++ R) := fun {l} hl => by
    induction l with
    | nil => trivial
    | cons a r ih => exact ⟨List.mem_append_left _ (hl a (.head _)), ih fun q hq => hl q (.tail _ hq)⟩
  refine rest_inv (fun m n => n = pre ++ R ∧ m (Str.ofString "pen") = some (.ref P)) (fun a => ∃ T op t val, a = .val (.ref T) ∧ (T, tupO [.str op t, val]) ∈ R ∧ RArg op val) ?_ ?_ hx ⟨rfl, hm⟩
  · rintro a v h tk m n ⟨T, op, t, val, rfl, hT, hA⟩ e ⟨rfl, hm⟩ F o' _ N
    have e' : v = .ref T := e
    subst e'
    have N2 : News h₀ env.locals h ((T, tupO [.str op t, val]) :: (I, o') :: (pre ++ R)) := fun q hq => by
      rcases List.mem_cons.mp hq with rfl | hq
      · exact N _ (.tail _ (show _ ∈ pre ++ R from List.mem_append_right _ hT))
      · exact N _ hq
    exact wpAny_mono (turn R T op t val h tk m o' hoff hT hA hm F N2) (fun _ s₂ h₂ => wpAny_mono h₂ (fun f s₃ p => unr_mono (fun m' n' x => ⟨x.1 ▸ sub hs, x⟩) p) fun _ _ x => x) fun _ _ x => x
  · rintro m n h tk ⟨rfl, hm⟩ F N
    exact done m h tk hm F fun q hq => N q (List.mem_append_left _ hq)
theorem unr_fin {I P L : Addr} {o' : Obj} {h' : Heap} {tk : Nat} {m' : Str → Option Value} {NL all : List (Addr × Obj)} {s₁ : Shared} (F : Fr h₀ L h' m') (N : News h₀ L h' all) (hI : (I, o') ∈ all) (hk : ∀ q ∈ NL, q ∈ all) (hoff : ∀ q ∈ NL, q.1 ≠ I) (hm : m' (Str.ofString "pen") = some (.ref P)) :
    UnrEndW h₀ L s₁ [(I, o')] (fun m' n' => n' = NL ∧ m' (Str.ofString "pen") = some (.ref P)) { s₁ with heap := h', toks := tk } :=
  ⟨h', tk, m', NL, rfl, F, fun q hq => by
    rcases List.mem_append.mp hq with hq | hq
    · rw [List.mem_singleton.mp hq]; exact N _ hI
    · exact N _ (hk _ hq), fun p hp q hq => by rw [List.mem_singleton.mp hq]; exact hoff p hp, rfl, hm⟩
/-- the end of the first turn -/
theorem unr_first {I L : Addr} {o' : Obj} {h' : Heap} {tk : Nat} {m' : Str → Option Value} {pre R all : List (Addr × Obj)} {s₁ : Shared} {rest : (Str → Option Value) → List (Addr × Obj) → Prop} (F : Fr h₀ L h' m') (N : News h₀ L h' all) (hI : (I, o') ∈ all) (hp : ∀ q ∈ pre, q ∈ all) (hr : ∀ q ∈ R, q ∈ all) (hop : ∀ q ∈ pre, q.1 ≠ I) (hor : ∀ q ∈ R, q.1 ≠ I)
    (r : (∀ q ∈ pre ++ R, q.1 ≠ I) → rest m' (pre ++ R)) :
    UnrEndW h₀ L s₁ [(I, o')] rest { s₁ with heap := h', toks := tk } :=
  have hoff : ∀ q ∈ pre ++ R, q.1 ≠ I := fun q hq => (List.mem_append.mp hq).elim (hop q) (hor q)
  ⟨h', tk, m', pre ++ R, rfl, F, fun q hq => by
    rcases List.mem_append.mp hq with hq | hq
    · rw [List.mem_singleton.mp hq]; exact N _ hI
    · exact (List.mem_append.mp hq).elim (fun x => N _ (hp _ x)) fun x => N _ (hr _ x), fun p hp q hq => by rw [List.mem_singleton.mp hq]; exact hoff p hp, r hoff⟩
theorem subL_app {keep pre R : List (Addr × Obj)} (h : ∀ q ∈ keep, q ∈ pre) : SubL keep (pre ++ R) := by
  induction keep with
  | nil => trivial
  | cons a r ih => exact ⟨List.mem_append_left _ (h a (.head _)), ih fun q hq => h q (.tail _ hq)⟩
end
theorem map3 {m : Str → Option Value} {P : Addr} {v x : Value} (h1 : m (Str.ofString "worth") = some v) (h2 : m (Str.ofString "op") = some x) (h3 : m (Str.ofString "pen") = some (.ref P)) : m = fun y => if y = Str.ofString "worth" then some v else if y = Str.ofString "op" then some x else if y = Str.ofString "pen" then some (.ref P) else m y := by
  funext y
  split
  · rename_i e; rw [e, h1]
  · split
    · rename_i e; rw [e, h2]
    · split
      · rename_i e; rw [e, h3]
      · rfl
section
variable {prog : Program} {w : World} {A : Around} {E : Value → Shared → Prop} {s : Shared} {h₀ h : Heap} {L P : Addr} {m : Str → Option Value} {nw rest : List (Addr × Obj)} {c : Sem Flow} {Q : Flow → Shared → Prop} {g : Array GenState} {d : Drawn} {t : Nat} {o : OsState} {bb : Int}
/-- the choice of a pair: its three ways meet again -/
theorem cut_pick (hoff : LCg.Off1 P rest) (F : Fr h₀ L h m) (e : s = ⟨h, g, d, t, o⟩)
    (h0 : ∀ (R : Flow → Shared → Prop), (∀ op v t5 a b ta tb k h' tk' (m' : Str → Option Value), RArg op v → a < 10 ^ 300 → 0 ≤ a → 0 ≤ b → b ≤ bb → m' (Str.ofString "worth") = some v → m' (Str.ofString "op") = some (.str op t5) → m' (Str.ofString "pen") = some (.ref P) →
      Fr h₀ L h' m' → News h₀ L h' ((P, PySem.W.listOf #[.int a ta, .int b tb] k) :: rest) → R .next ⟨h', g, d, tk', o⟩) → wpAny (model prog w) A c R E ⟨h, g, d, t, o⟩)
    (k : ∀ op v t5 a b ta tb k h' tk' (m' : Str → Option Value), RArg op v → a < 10 ^ 300 → 0 ≤ a → 0 ≤ b → b ≤ bb →
      Fr h₀ L h' (fun y => if y = Str.ofString "worth" then some v else if y = Str.ofString "op" then some (.str op t5) else if y = Str.ofString "pen" then some (.ref P) else m' y) → News h₀ L h' ((P, PySem.W.listOf #[.int a ta, .int b tb] k) :: rest) → Q .next ⟨h', g, d, tk', o⟩) :
    wpAny (model prog w) A c Q E s :=
  e ▸ h0 Q fun op v t5 a b ta tb k' h' tk' m' hA x1 x2 x3 x4 e1 e2 e3 F' N' => k op v t5 a b ta tb k' h' tk' m' hA x1 x2 x3 x4 (map3 e1 e2 e3 ▸ F') N'
end
-- part Law3
theorem wd41 : True := by
  (k_with "lw_arg3" => with_reducible first
      | assumption
      | exact RArg.int _ _
      | exact RArg.arg _ _
      | (refine' RArg.str _ _ ?hx9w166x ?hl9w166x; (case hl9w166x => (refine lay_str (ok_mul ?ho9w166x) ?hn9w166x; (case ho9w166x => first | exact ok_a | exact ok_item ok_menu); (case hn9w166x => omega))); (case hx9w166x => omega)))
  (k_with "lw_next3" => (
      k_dflt ((k_here; k_dflt (refine' ((right_c ?haw168x ?hl1w168x ?hl2w168x ?htw168x ?hm1w168x ?hm2w168x)) _ _ _ _ _ _ _ _ _ _ _ _ _ _ _ _ _ _ _ _ _ _ _ _ _ ?k1z168xw168x ?k2z168xw168x ?k3z168xw168x ?k4z168xw168x ?k5z168xw168x ?k8z168xw168x ?k9z168xw168x ?kCz168xw168x ?kdz168xw168x ?kuz168xw168x ?_; (case k1z168xw168x => k_asm); (case k2z168xw168x => k_asm); (case k3z168xw168x => k_asm); (case k4z168xw168x => k_asm); (case k5z168xw168x => k_asm); (case k8z168xw168x => assumption); (case k9z168xw168x => assumption); (case kCz168xw168x => assumption); (case kdz168xw168x => (k_extra "my_room")); (case kuz168xw168x => (k_extra "my_units")))))
      case htw168x => k_mem
      case hm1w168x => k_mem
      case hm2w168x => k_mem
      case hl1w168x => assumption
      case hl2w168x => assumption
      case haw168x => (k_extra "lw_arg3")
      intro h'w tk'w U'w
      obtain ⟨g'w, TT'w, F1'w, N1'w, B1'w, X1'w, T1'w⟩ := U'w
      obtain ⟨F'w, N'w⟩ := turn_nil0 TT'w F1'w N1'w
      clear TT'w F1'w N1'w B1'w X1'w T1'w
      try dsimp only at N'w
      try dsimp only
      try k_sweep))
  (k_with "call ref" => ((with_reducible show wpAny _ _ (call (Value.ref 528) _) _ _ _); first | k_dflt (k_extra "lw_first") | k_dflt (k_extra "lw_next3")))
  (k_with "UnrEndW" => (k_dflt (refine' unr_fin ?F9w170x ?N9w170x ?i9w170x ?k9w170x ?o9w170x ?m9w170x; (case F9w170x => k_asm); (case N9w170x => k_asm); (case i9w170x => k_mem); (case k9w170x => (k_extra "my_keep")); (case o9w170x => assumption); (case m9w170x => first | assumption | rfl))))
  trivial
theorem pen_ex {m : Str → Option Value} {P : Addr} (h : m (Str.ofString "pen") = some (.ref P)) : ∃ u : Str → Option Value, m = fun y => if y = Str.ofString "pen" then some (.ref P) else u y := ⟨m, pen_map h⟩
theorem turn_off {P : Addr} {x y : Obj} {rest own : List (Addr × Obj)} {h₀ h : Heap} {L : Addr} (N : News h₀ L h (((P, x) :: rest) ++ own)) (ho : OwnOff own (((P, y) :: rest).map (·.1))) (hr : LCg.Off1 P rest) : LCg.Off1 P (rest ++ own) := off1_own ho (.head _) hr
theorem t0 : PySem.Challenge.rw_qd0067_01.Holds := by
  refine holds_law hsaid fun said => ?_
  refine' holds_open (q := hv) (loose := [.ofString "LEVELS", .ofString "FUNCTIONS", .ofString "ToolError", .ofString "CodeHandler"]) (Xt := hXt) (XP := XL hv []) (Yf := Hook.obs hH) (Ya := Hook.val hH) (YP := Hook.says (kmHook hd.heap_39 kAs kAs_ok [525])) (N := 7808) hleft ?a1 ?a2 ?a3 ?a4 ?a5 ?a6 ?a7 ?a8 ?a9 said ?a11 ?a12 ?hw ?hc
  case a1 => exact (Hook.of hH)
  case a2 => exact (Hook.keeps hH)
  case a3 => exact (fun s e => xl_of s (Bool.and_eq_true_iff.mp e).1)
  case a4 => exact XL.keeps
  case a5 => rfl
  case a6 => rfl
  case a7 => rfl
  case a8 => exact (fun s e => recFacts_of (Bool.and_eq_true_iff.mp e).2)
  case a9 => rfl
  case a11 => decide +kernel
  case a12 => exact ⟨rfl, rfl, rfl, rfl, rfl, by decide +kernel⟩
  case hw => w_witness2
  case hc =>
    clear said
    (k_go0; (all_goals try k_fold))
    have XB := ‹(hd.heap_39 _).In (ghostOf _ _)›
    repeat' ((fail_if_success (with_reducible show UnrEndW _ _ _ _ _ _)); (fail_if_success (with_reducible show wpAny _ _ (pyIter (Value.ref _)) (fun it s₂ => LoopAtV _ _ _ _ _ _ _ _ _ it s₂) _ _)); (first | (k_unfold; (try dsimp only)) | (k_end; kc_close) | walk1 | (dsimp only; walk1) | (leave1; walk_say "STEP leave1"; (try dsimp only)) | fail "no step"))
    (rename Fr _ _ _ _ => lF')
    (rename News _ _ _ _ => lN')
    walk_say "FIRST"
    k_dflt (refine' unr_first (pre := [(525, tabFull ?c1 ?c2), (?c1, ?o1), (?c2, ?o2), (?P, PySem.W.listOf #[.int ?pa ?pta, .int ?pb ?ptb] ?pk), (?D, PySem.W.listOf #[.ref ?x1, .ref ?x2, .ref ?x3, .ref ?x4, .ref ?x5, .ref ?x6, .ref ?x7, .ref ?x8, .ref ?x9, .ref ?x10, .ref ?x11] ?dk)]) (R := [(?x1, ?y1), (?x2, ?y2), (?x3, ?y3), (?x4, ?y4), (?x5, ?y5), (?x6, ?y6), (?x7, ?y7), (?x8, ?y8), (?x9, ?y9), (?x10, ?y10), (?x11, ?y11)]) lF' lN' ?hI ?hp ?hr ?hop ?hor ?r)
    case hI => (k_mem)
    case hp => ((refine List.forall_mem_cons.mpr ⟨by k_mem, ?_⟩; refine List.forall_mem_cons.mpr ⟨by k_mem, ?_⟩; refine List.forall_mem_cons.mpr ⟨by k_mem, ?_⟩; refine List.forall_mem_cons.mpr ⟨by k_mem, ?_⟩; refine List.forall_mem_cons.mpr ⟨by k_mem, ?_⟩; exact List.forall_mem_nil _))
    case hr => ((k_extra "my_keep"))
    case hop => ((k_extra "my_nes"))
    case hor => ((k_extra "my_nes"))
    case r =>
      intro hoff
      refine ⟨subL_app (by (k_extra "my_keep")), ?_⟩
      k_dflt (refine' rest_pen hoff ?hs ?turn ?done ?hx ?hm)
      case hs => (k_extra "my_keep")
      case hm => rfl
      case hx => (((repeat' (refine List.forall_mem_cons.mpr ⟨⟨_, _, _, _, rfl, by k_mem, by (k_extra "lw_arg3")⟩, ?_⟩)); exact List.forall_mem_nil _))
      case turn =>
        intro R9 T9 op9 t9 val9 h9 tk9 m9 o9 hoffR hT9 hA9 hm9 F9 N9
        clear hoff lF' lN'
        obtain ⟨u9, rfl⟩ := pen_ex hm9
        dsimp only [List.cons_append, List.nil_append] at hoffR N9 ⊢
        (k_extra "t_steps3")
        trace_state
      case done =>
        intro m9 h9 tk9 hm9 F9 N9
        clear hoff lF' lN'
        obtain ⟨u9, rfl⟩ := pen_ex hm9
        repeat' ((fail_if_success (with_reducible show wpAny _ _ (pyIter (Value.ref _)) (fun it s₂ => LoopAtV _ _ _ _ _ _ _ _ _ it s₂) _ _)); (first | (k_unfold; (try dsimp only)) | (k_end; kc_close) | walk1 | (dsimp only; walk1) | (leave1; walk_say "STEP leave1"; (try dsimp only)) | fail "no step"))
        (rename Fr _ _ _ _ => lF')
        (rename News _ _ _ _ => lN')
        k_dflt (refine' range_inv (n := 6) (PenInv ?P [(525, tabFull ?c1 ?c2), (?c1, ?o1), (?c2, ?o2)]) ?hh ?hr ?hs ?hz lF' (news := (?P, PySem.W.listOf #[.int ?pa ?pta, .int ?pb ?ptb] ?pk) :: [(525, tabFull ?c1 ?c2), (?c1, ?o1), (?c2, ?o2)]) ?hN (pen_start0 ?hm ?ha2 ?ha ?hb ?hb2 : PenInv _ _ 0 _ ((?P, PySem.W.listOf #[.int ?pa ?pta, .int ?pb ?ptb] ?pk) :: _)) ?turn ?done)
        case hh => rfl
        case hm => rfl
        case hr => exact ‹IsRange _ _ _ _ _ _ _ _›
        case hs => decide
        case hz => decide
        case hN => (refine' cb_drop ?a9 ?b9; (case a9 => exact lN'); (case b9 => (k_extra "my_keep")))
        case ha2 => assumption
        case ha => assumption
        case hb => assumption
        case hb2 => assumption
        case done =>
          rintro m1 nx h9 tk9 ⟨a, b, ta, tb, k, u, ha2, ha, hb, hb2, rfl, rfl⟩ F9 N9
          clear lF' lN'
          (k_extra "t_steps3")
        case turn =>
          rintro i t m1 nx h9 tk9 own hi hnx hown ⟨a, b, ta, tb, k, u, ha2, ha, hb, hb2, rfl, rfl⟩ F9 N9
          clear lF' lN'
          have hi2 : (i : Int) ≤ 5 := by omega
          have hoffP := turn_off N9 hown ⟨by k_ne, by k_ne, by k_ne, trivial⟩
          simp only [List.cons_append, List.nil_append] at N9 hoffP
          repeat' ((fail_if_success (with_reducible show wpAny _ _ (exec (Stmt.If (PySem.Expr.Compare (PySem.Expr.Name (Str.ofString "way") _) _ _ _) _ [Stmt.If _ _ _ _] _) _) _ _ _)); (first | (k_unfold; (try dsimp only)) | (k_end; kc_close) | walk1 | (dsimp only; walk1) | (leave1; walk_say "STEP leave1"; (try dsimp only)) | fail "no step"))
          (rename Fr _ _ _ _ => lF')
          (rename News _ _ _ _ => lN')
          k_dflt (refine' cut_pick (bb := 30 + 10 * (i : Int) + 8) hoffP lF' ?e9 ?h9 ?_)
          case e9 => first | (dsimp only; done) | exact rfl
          case h9 =>
            intro R9 hR9
            (k_extra "t_steps3")
            all_goals
              refine' hR9 _ _ _ _ _ _ _ _ _ _ _ ?gA ?g1 ?g2 ?g3 ?g4 ?g5 ?g6 ?g7 ?gF ?gN
              case gF => k_asm
              case g5 => rfl
              case g6 => rfl
              case g7 => rfl
              case gN => (refine' cb_drop ?a9 ?b9; (case a9 => assumption); (case b9 => (k_extra "my_keep")))
              case g1 => assumption
              case g2 => assumption
              case g3 => omega
              case g4 => omega
              case gA => (k_extra "lw_arg3")
          intro op9 v9 t9 a9 b9 ta9 tb9 k9 h9 tk9 m9 hA9 hx1 hx2 hx3 hx4 F9 N9
          clear lF' lN'
          (k_extra "t_steps3")
          all_goals
            refine' ⟨_, _, _, _, _, rfl, ?F9, ?N9, ?hn9, ?ho9, ?he9, pen_next ?hm9 ?ha29 ?ha9 ?hb9 ?hb29⟩
            case F9 => k_asm
            case N9 => k_asm
            case hm9 => rfl
            case hn9 => (k_extra "my_keep")
            case ho9 => (k_extra "my_keep")
            case he9 => rfl
            case ha29 => assumption
            case ha9 => assumption
            case hb9 => omega
            case hb29 => omega
end Mine
set_option maxRecDepth 100000 in
set_option maxHeartbeats 8000000 in
theorem PySem.Challenge.cw_qd0067_01_holds : PySem.Challenge.rw_qd0067_01.Holds := by
  exact Mine.t0
