import PyProof.Rows.All
import Wide.All
import OpenK.AllK
import Wide.FinOn
import PySem.Challenge.RW_on0165_01
open PySem PySem.W PyProof.Rows PySem.Calls
set_option Elab.async false
set_option linter.unusedVariables false
set_option linter.unusedSimpArgs false
namespace Mine
/-! the head, by hand -/
noncomputable def hk_stm (i : Nat) : Stmt := PySem.Challenge.pw_on0165_01.main.body.getD i (.Pass ⟨0, 0, 0, 0⟩)
noncomputable def hk_inner : Stmt → List Stmt
  | .ClassDef _ _ _ b _ _ _ _ _ _ _ => b
  | _ => []
noncomputable def hk_mem (i j : Nat) : Stmt := (hk_inner (hk_stm i)).getD j (.Pass ⟨0, 0, 0, 0⟩)
noncomputable def fO (s : Stmt) (qual : Str) (dV : Value) (mod : Str) (mt : Nat) (cd : Addr) : Obj := match s with
  | .FunctionDef name params body _ _ _ scope _ _ _ => ⟨.type "function", none, .func ⟨name, qual, params, .stmts body, scope, nat_lit 3, [], dV, .none, .none, .str mod mt, none, .ref cd, .none, nat_lit 0⟩, #[]⟩
  | _ => ⟨.none, none, .plain, #[]⟩
def hk_en (P : Params) (k : Str) (t : Nat) (v : Value) : DictEntry := ⟨PyData.keyHash P k, .str k t, v⟩
noncomputable def hk2 (P : Params) : Obj := ⟨.none, none, .dict #[hk_en P (.ofString "type.__subclasses__.Exception.0") (nat_lit 291) (.int 79 (nat_lit 0)), hk_en P (.ofString "type.__subclasses__.Exception.n") (nat_lit 292) (.int 1 (nat_lit 0))] (nat_lit 2), #[]⟩
noncomputable def hk3 (P : Params) : Obj := ⟨.type "dict", none, .dict #[hk_en P (.ofString "__name__") (nat_lit 165) (.str (.ofString "law_on0165_01") (nat_lit 490)), hk_en P (.ofString "__doc__") (nat_lit 166) (.none), hk_en P (.ofString "__package__") (nat_lit 167) (.none), hk_en P (.ofString "__loader__") (nat_lit 168) (.builtin "__main__.__loader__#opaque"), hk_en P (.ofString "__spec__") (nat_lit 169) (.none), hk_en P (.ofString "__annotations__") (nat_lit 170) (.ref (nat_lit 6)), hk_en P (.ofString "__builtins__") (nat_lit 171) (.ref (nat_lit 4)), hk_en P (.ofString "__file__") (nat_lit 173) (.str (.ofString "/claim/cut.py") (nat_lit 172)), hk_en P (.ofString "__cached__") (nat_lit 174) (.none), hk_en P (.ofString "_wall") (nat_lit 193) (.ref (nat_lit 21)), hk_en P (.ofString "spread") (nat_lit 201) (.ref (nat_lit 26)), hk_en P (.ofString "nullable") (nat_lit 208) (.ref (nat_lit 33)), hk_en P (.ofString "first_of") (nat_lit 219) (.ref (nat_lit 40)), hk_en P (.ofString "first_masks") (nat_lit 232) (.ref (nat_lit 47)), hk_en P (.ofString "closure_one") (nat_lit 254) (.ref (nat_lit 54)), hk_en P (.ofString "ToolError") (nat_lit 294) (.ref (nat_lit 79)), hk_en P (.ofString "GrammarError") (nat_lit 310) (.ref (nat_lit 92)), hk_en P (.ofString "END") (nat_lit 314) (.int 0 (nat_lit 313)), hk_en P (.ofString "OWN_TERMINALS") (nat_lit 318) (.ref (nat_lit 95)), hk_en P (.ofString "Rule") (nat_lit 363) (.ref (nat_lit 113)), hk_en P (.ofString "Grammar") (nat_lit 473) (.ref (nat_lit 195)), hk_en P (.ofString "last_terminal") (nat_lit 483) (.ref (nat_lit 206)), hk_en P (.ofString "plain_grammar") (nat_lit 489) (.ref (nat_lit 212)), hk_en P (.ofString "_law_box") (nat_lit 497) (.ref (nat_lit 217)), hk_en P (.ofString "_law_draw") (nat_lit 507) (.ref (nat_lit 224)), hk_en P (.ofString "_law_pairs") (nat_lit 513) (.ref (nat_lit 229)), hk_en P (.ofString "_law_kernel") (nat_lit 527) (.ref (nat_lit 236)), hk_en P (.ofString "_law_joined") (nat_lit 533) (.ref (nat_lit 241)), hk_en P (.ofString "_law_is_closed") (nat_lit 539) (.ref (nat_lit 246)), hk_en P (.ofString "law") (nat_lit 545) (.ref (nat_lit 251))] (nat_lit 30), #[]⟩
noncomputable def hk25 (P : Params) : Obj := ⟨.type "code", none, .fields #[.str (.ofString "spread") (nat_lit 196), .str (.ofString "spread") (nat_lit 197), .str (.ofString "/claim/cut.py") (nat_lit 198), .int 5 (nat_lit 0), .int 2 (nat_lit 0), .int 0 (nat_lit 0), .int 0 (nat_lit 0), .int 3 (nat_lit 0), .ref (nat_lit 22), .bool true, .int 181 (nat_lit 0), .ref (nat_lit 23), .none, .none, .none, .ref (nat_lit 24), .int 199 (nat_lit 0), .int 5 (nat_lit 0), .str (.ofString "/claim/cut.py") (nat_lit 200)], #[]⟩
noncomputable def hk26 (P : Params) : Obj := fO (hk_stm 2) (.ofString "spread") (.none) (.ofString "grammarmill.analysis") (nat_lit 194) (nat_lit 25)
noncomputable def hk32 (P : Params) : Obj := ⟨.type "code", none, .fields #[.str (.ofString "nullable") (nat_lit 202), .str (.ofString "nullable") (nat_lit 203), .str (.ofString "/claim/cut.py") (nat_lit 204), .int 31 (nat_lit 0), .int 1 (nat_lit 0), .int 0 (nat_lit 0), .int 0 (nat_lit 0), .int 3 (nat_lit 0), .ref (nat_lit 27), .bool true, .int 181 (nat_lit 0), .ref (nat_lit 28), .none, .ref (nat_lit 29), .ref (nat_lit 30), .ref (nat_lit 31), .int 206 (nat_lit 0), .int 31 (nat_lit 0), .str (.ofString "/claim/cut.py") (nat_lit 207)], #[]⟩
noncomputable def hk33 (P : Params) : Obj := fO (hk_stm 3) (.ofString "nullable") (.none) (.ofString "grammarmill.analysis") (nat_lit 194) (nat_lit 32)
noncomputable def hk39 (P : Params) : Obj := ⟨.type "code", none, .fields #[.str (.ofString "first_of") (nat_lit 209), .str (.ofString "first_of") (nat_lit 210), .str (.ofString "/claim/cut.py") (nat_lit 211), .int 33 (nat_lit 0), .int 3 (nat_lit 0), .int 0 (nat_lit 0), .int 0 (nat_lit 0), .int 3 (nat_lit 0), .ref (nat_lit 34), .bool true, .int 181 (nat_lit 0), .ref (nat_lit 35), .none, .ref (nat_lit 36), .ref (nat_lit 37), .ref (nat_lit 38), .int 217 (nat_lit 0), .int 33 (nat_lit 0), .str (.ofString "/claim/cut.py") (nat_lit 218)], #[]⟩
noncomputable def hk40 (P : Params) : Obj := fO (hk_stm 4) (.ofString "first_of") (.none) (.ofString "grammarmill.analysis") (nat_lit 194) (nat_lit 39)
noncomputable def hk46 (P : Params) : Obj := ⟨.type "code", none, .fields #[.str (.ofString "first_masks") (nat_lit 220), .str (.ofString "first_masks") (nat_lit 221), .str (.ofString "/claim/cut.py") (nat_lit 222), .int 40 (nat_lit 0), .int 1 (nat_lit 0), .int 0 (nat_lit 0), .int 0 (nat_lit 0), .int 3 (nat_lit 0), .ref (nat_lit 41), .bool true, .int 181 (nat_lit 0), .ref (nat_lit 42), .none, .ref (nat_lit 43), .ref (nat_lit 44), .ref (nat_lit 45), .int 230 (nat_lit 0), .int 40 (nat_lit 0), .str (.ofString "/claim/cut.py") (nat_lit 231)], #[]⟩
noncomputable def hk47 (P : Params) : Obj := fO (hk_stm 5) (.ofString "first_masks") (.none) (.ofString "grammarmill.analysis") (nat_lit 194) (nat_lit 46)
noncomputable def hk53 (P : Params) : Obj := ⟨.type "code", none, .fields #[.str (.ofString "closure_one") (nat_lit 235), .str (.ofString "closure_one") (nat_lit 236), .str (.ofString "/claim/cut.py") (nat_lit 237), .int 55 (nat_lit 0), .int 4 (nat_lit 0), .int 0 (nat_lit 0), .int 0 (nat_lit 0), .int 3 (nat_lit 0), .ref (nat_lit 48), .bool true, .int 181 (nat_lit 0), .ref (nat_lit 49), .none, .ref (nat_lit 50), .ref (nat_lit 51), .ref (nat_lit 52), .int 252 (nat_lit 0), .int 55 (nat_lit 0), .str (.ofString "/claim/cut.py") (nat_lit 253)], #[]⟩
noncomputable def hk54 (P : Params) : Obj := fO (hk_stm 7) (.ofString "closure_one") (.none) (.ofString "grammarmill.canonical") (nat_lit 233) (nat_lit 53)
noncomputable def hk95 (P : Params) : Obj := ⟨.type "tuple", none, .seq #[.str (.ofString "$end") (nat_lit 315), .str (.ofString "error") (nat_lit 316), .str (.ofString "$undefined") (nat_lit 317)] (nat_lit 0), #[]⟩
noncomputable def hk103 (P : Params) : Obj := ⟨.type "tuple", none, .seq #[.int (-1) (nat_lit 332), .none, .int 0 (nat_lit 333), .int 0 (nat_lit 334)] (nat_lit 0), #[]⟩
noncomputable def hk109 (P : Params) : Obj := ⟨.type "code", none, .fields #[.str (.ofString "__init__") (nat_lit 335), .str (.ofString "Rule.__init__") (nat_lit 336), .str (.ofString "/claim/cut.py") (nat_lit 337), .int 96 (nat_lit 0), .int 8 (nat_lit 0), .int 0 (nat_lit 0), .int 0 (nat_lit 0), .int 3 (nat_lit 0), .ref (nat_lit 104), .bool true, .int 181 (nat_lit 0), .ref (nat_lit 105), .none, .ref (nat_lit 106), .ref (nat_lit 107), .ref (nat_lit 108), .int 346 (nat_lit 0), .int 96 (nat_lit 0), .str (.ofString "/claim/cut.py") (nat_lit 347)], #[]⟩
noncomputable def hk110 (P : Params) : Obj := fO (hk_mem 14 0) (.ofString "Rule.__init__") (.ref (nat_lit 103)) (.ofString "grammarmill.grammar") (nat_lit 311) (nat_lit 109)
noncomputable def hk112 (P : Params) : Obj := ⟨.type "dict", none, .dict #[hk_en P (.ofString "__module__") (nat_lit 326) (.str (.ofString "grammarmill.grammar") (nat_lit 311)), hk_en P (.ofString "__firstlineno__") (nat_lit 330) (.int 94 (nat_lit 329)), hk_en P (.ofString "__init__") (nat_lit 348) (.ref (nat_lit 110)), hk_en P (.ofString "__static_attributes__") (nat_lit 356) (.ref (nat_lit 111)), hk_en P (.ofString "__dict__") (nat_lit 358) (.ref (nat_lit 114)), hk_en P (.ofString "__weakref__") (nat_lit 360) (.ref (nat_lit 115)), hk_en P (.ofString "__doc__") (nat_lit 361) (.none)] (nat_lit 4), #[]⟩
noncomputable def hk113 (P : Params) : Obj := ⟨.type "type", none, .cls { name := .ofString "Rule", bases := [.type "object"], mro := [.ref (nat_lit 113), .type "object"], ns := nat_lit 112, qualname := .ofString "Rule" }, #[none, none, some (.str (.ofString "Rule") (nat_lit 319)), some (.str (.ofString "Rule") (nat_lit 327)), some (.builtin "object.__new__"), some (.bool true)]⟩
noncomputable def hk128 (P : Params) : Obj := ⟨.type "code", none, .fields #[.str (.ofString "__init__") (nat_lit 376), .str (.ofString "Grammar.__init__") (nat_lit 377), .str (.ofString "/claim/cut.py") (nat_lit 378), .int 106 (nat_lit 0), .int 7 (nat_lit 0), .int 0 (nat_lit 0), .int 0 (nat_lit 0), .int 3 (nat_lit 0), .ref (nat_lit 125), .bool true, .int 181 (nat_lit 0), .ref (nat_lit 126), .none, .none, .none, .ref (nat_lit 127), .int 379 (nat_lit 0), .int 106 (nat_lit 0), .str (.ofString "/claim/cut.py") (nat_lit 380)], #[]⟩
noncomputable def hk129 (P : Params) : Obj := fO (hk_mem 15 0) (.ofString "Grammar.__init__") (.none) (.ofString "grammarmill.grammar") (nat_lit 311) (nat_lit 128)
noncomputable def hk135 (P : Params) : Obj := ⟨.type "code", none, .fields #[.str (.ofString "symbol_count") (nat_lit 382), .str (.ofString "Grammar.symbol_count") (nat_lit 383), .str (.ofString "/claim/cut.py") (nat_lit 384), .int 122 (nat_lit 0), .int 1 (nat_lit 0), .int 0 (nat_lit 0), .int 0 (nat_lit 0), .int 3 (nat_lit 0), .ref (nat_lit 130), .bool true, .int 181 (nat_lit 0), .ref (nat_lit 131), .none, .ref (nat_lit 132), .ref (nat_lit 133), .ref (nat_lit 134), .int 386 (nat_lit 0), .int 122 (nat_lit 0), .str (.ofString "/claim/cut.py") (nat_lit 387)], #[]⟩
noncomputable def hk136 (P : Params) : Obj := fO (hk_mem 15 1) (.ofString "Grammar.symbol_count") (.none) (.ofString "grammarmill.grammar") (nat_lit 311) (nat_lit 135)
noncomputable def hk142 (P : Params) : Obj := ⟨.type "code", none, .fields #[.str (.ofString "is_terminal") (nat_lit 389), .str (.ofString "Grammar.is_terminal") (nat_lit 390), .str (.ofString "/claim/cut.py") (nat_lit 391), .int 125 (nat_lit 0), .int 2 (nat_lit 0), .int 0 (nat_lit 0), .int 0 (nat_lit 0), .int 3 (nat_lit 0), .ref (nat_lit 137), .bool true, .int 181 (nat_lit 0), .ref (nat_lit 138), .none, .ref (nat_lit 139), .ref (nat_lit 140), .ref (nat_lit 141), .int 394 (nat_lit 0), .int 125 (nat_lit 0), .str (.ofString "/claim/cut.py") (nat_lit 395)], #[]⟩
noncomputable def hk143 (P : Params) : Obj := fO (hk_mem 15 2) (.ofString "Grammar.is_terminal") (.none) (.ofString "grammarmill.grammar") (nat_lit 311) (nat_lit 142)
noncomputable def hk163 (P : Params) : Obj := ⟨.type "code", none, .fields #[.str (.ofString "rules_of") (nat_lit 413), .str (.ofString "Grammar.rules_of") (nat_lit 414), .str (.ofString "/claim/cut.py") (nat_lit 415), .int 134 (nat_lit 0), .int 2 (nat_lit 0), .int 0 (nat_lit 0), .int 0 (nat_lit 0), .int 3 (nat_lit 0), .ref (nat_lit 158), .bool true, .int 181 (nat_lit 0), .ref (nat_lit 159), .none, .ref (nat_lit 160), .ref (nat_lit 161), .ref (nat_lit 162), .int 418 (nat_lit 0), .int 134 (nat_lit 0), .str (.ofString "/claim/cut.py") (nat_lit 419)], #[]⟩
noncomputable def hk164 (P : Params) : Obj := fO (hk_mem 15 5) (.ofString "Grammar.rules_of") (.none) (.ofString "grammarmill.grammar") (nat_lit 311) (nat_lit 163)
noncomputable def hk170 (P : Params) : Obj := ⟨.type "code", none, .fields #[.str (.ofString "item") (nat_lit 421), .str (.ofString "Grammar.item") (nat_lit 422), .str (.ofString "/claim/cut.py") (nat_lit 423), .int 137 (nat_lit 0), .int 3 (nat_lit 0), .int 0 (nat_lit 0), .int 0 (nat_lit 0), .int 3 (nat_lit 0), .ref (nat_lit 165), .bool true, .int 181 (nat_lit 0), .ref (nat_lit 166), .none, .ref (nat_lit 167), .ref (nat_lit 168), .ref (nat_lit 169), .int 427 (nat_lit 0), .int 137 (nat_lit 0), .str (.ofString "/claim/cut.py") (nat_lit 428)], #[]⟩
noncomputable def hk171 (P : Params) : Obj := fO (hk_mem 15 6) (.ofString "Grammar.item") (.none) (.ofString "grammarmill.grammar") (nat_lit 311) (nat_lit 170)
noncomputable def hk177 (P : Params) : Obj := ⟨.type "code", none, .fields #[.str (.ofString "rule_of") (nat_lit 430), .str (.ofString "Grammar.rule_of") (nat_lit 431), .str (.ofString "/claim/cut.py") (nat_lit 432), .int 140 (nat_lit 0), .int 2 (nat_lit 0), .int 0 (nat_lit 0), .int 0 (nat_lit 0), .int 3 (nat_lit 0), .ref (nat_lit 172), .bool true, .int 181 (nat_lit 0), .ref (nat_lit 173), .none, .ref (nat_lit 174), .ref (nat_lit 175), .ref (nat_lit 176), .int 435 (nat_lit 0), .int 140 (nat_lit 0), .str (.ofString "/claim/cut.py") (nat_lit 436)], #[]⟩
noncomputable def hk178 (P : Params) : Obj := fO (hk_mem 15 7) (.ofString "Grammar.rule_of") (.none) (.ofString "grammarmill.grammar") (nat_lit 311) (nat_lit 177)
noncomputable def hk184 (P : Params) : Obj := ⟨.type "code", none, .fields #[.str (.ofString "dot_of") (nat_lit 438), .str (.ofString "Grammar.dot_of") (nat_lit 439), .str (.ofString "/claim/cut.py") (nat_lit 440), .int 143 (nat_lit 0), .int 2 (nat_lit 0), .int 0 (nat_lit 0), .int 0 (nat_lit 0), .int 3 (nat_lit 0), .ref (nat_lit 179), .bool true, .int 181 (nat_lit 0), .ref (nat_lit 180), .none, .ref (nat_lit 181), .ref (nat_lit 182), .ref (nat_lit 183), .int 443 (nat_lit 0), .int 143 (nat_lit 0), .str (.ofString "/claim/cut.py") (nat_lit 444)], #[]⟩
noncomputable def hk185 (P : Params) : Obj := fO (hk_mem 15 8) (.ofString "Grammar.dot_of") (.none) (.ofString "grammarmill.grammar") (nat_lit 311) (nat_lit 184)
noncomputable def hk191 (P : Params) : Obj := ⟨.type "code", none, .fields #[.str (.ofString "after") (nat_lit 446), .str (.ofString "Grammar.after") (nat_lit 447), .str (.ofString "/claim/cut.py") (nat_lit 448), .int 146 (nat_lit 0), .int 2 (nat_lit 0), .int 0 (nat_lit 0), .int 0 (nat_lit 0), .int 3 (nat_lit 0), .ref (nat_lit 186), .bool true, .int 181 (nat_lit 0), .ref (nat_lit 187), .none, .ref (nat_lit 188), .ref (nat_lit 189), .ref (nat_lit 190), .int 453 (nat_lit 0), .int 146 (nat_lit 0), .str (.ofString "/claim/cut.py") (nat_lit 454)], #[]⟩
noncomputable def hk192 (P : Params) : Obj := fO (hk_mem 15 9) (.ofString "Grammar.after") (.none) (.ofString "grammarmill.grammar") (nat_lit 311) (nat_lit 191)
noncomputable def hk194 (P : Params) : Obj := ⟨.type "dict", none, .dict #[hk_en P (.ofString "__module__") (nat_lit 371) (.str (.ofString "grammarmill.grammar") (nat_lit 311)), hk_en P (.ofString "__firstlineno__") (nat_lit 375) (.int 104 (nat_lit 374)), hk_en P (.ofString "__init__") (nat_lit 381) (.ref (nat_lit 129)), hk_en P (.ofString "symbol_count") (nat_lit 388) (.ref (nat_lit 136)), hk_en P (.ofString "is_terminal") (nat_lit 396) (.ref (nat_lit 143)), hk_en P (.ofString "is_middle") (nat_lit 404) (.ref (nat_lit 150)), hk_en P (.ofString "number") (nat_lit 412) (.ref (nat_lit 157)), hk_en P (.ofString "rules_of") (nat_lit 420) (.ref (nat_lit 164)), hk_en P (.ofString "item") (nat_lit 429) (.ref (nat_lit 171)), hk_en P (.ofString "rule_of") (nat_lit 437) (.ref (nat_lit 178)), hk_en P (.ofString "dot_of") (nat_lit 445) (.ref (nat_lit 185)), hk_en P (.ofString "after") (nat_lit 455) (.ref (nat_lit 192)), hk_en P (.ofString "__static_attributes__") (nat_lit 466) (.ref (nat_lit 193)), hk_en P (.ofString "__dict__") (nat_lit 468) (.ref (nat_lit 196)), hk_en P (.ofString "__weakref__") (nat_lit 470) (.ref (nat_lit 197)), hk_en P (.ofString "__doc__") (nat_lit 471) (.none)] (nat_lit 4), #[]⟩
noncomputable def hk195 (P : Params) : Obj := ⟨.type "type", none, .cls { name := .ofString "Grammar", bases := [.type "object"], mro := [.ref (nat_lit 195), .type "object"], ns := nat_lit 194, qualname := .ofString "Grammar" }, #[none, none, some (.str (.ofString "Grammar") (nat_lit 364)), some (.str (.ofString "Grammar") (nat_lit 372)), some (.builtin "object.__new__"), some (.bool true)]⟩
noncomputable def hk205 (P : Params) : Obj := ⟨.type "code", none, .fields #[.str (.ofString "last_terminal") (nat_lit 474), .str (.ofString "last_terminal") (nat_lit 475), .str (.ofString "/claim/cut.py") (nat_lit 476), .int 150 (nat_lit 0), .int 2 (nat_lit 0), .int 0 (nat_lit 0), .int 0 (nat_lit 0), .int 3 (nat_lit 0), .ref (nat_lit 200), .bool true, .int 181 (nat_lit 0), .ref (nat_lit 201), .none, .ref (nat_lit 202), .ref (nat_lit 203), .ref (nat_lit 204), .int 481 (nat_lit 0), .int 150 (nat_lit 0), .str (.ofString "/claim/cut.py") (nat_lit 482)], #[]⟩
noncomputable def hk206 (P : Params) : Obj := fO (hk_stm 16) (.ofString "last_terminal") (.none) (.ofString "grammarmill.grammar") (nat_lit 311) (nat_lit 205)
noncomputable def hk207 (P : Params) : Obj := ⟨.type "tuple", none, .seq #[.none] (nat_lit 0), #[]⟩
noncomputable def hk211 (P : Params) : Obj := ⟨.type "code", none, .fields #[.str (.ofString "plain_grammar") (nat_lit 484), .str (.ofString "plain_grammar") (nat_lit 485), .str (.ofString "/claim/cut.py") (nat_lit 486), .int 156 (nat_lit 0), .int 2 (nat_lit 0), .int 0 (nat_lit 0), .int 0 (nat_lit 0), .int 3 (nat_lit 0), .ref (nat_lit 208), .bool true, .int 181 (nat_lit 0), .ref (nat_lit 209), .none, .none, .none, .ref (nat_lit 210), .int 487 (nat_lit 0), .int 156 (nat_lit 0), .str (.ofString "/claim/cut.py") (nat_lit 488)], #[]⟩
noncomputable def hk212 (P : Params) : Obj := fO (hk_stm 17) (.ofString "plain_grammar") (.ref (nat_lit 207)) (.ofString "grammarmill.grammar") (nat_lit 311) (nat_lit 211)
noncomputable def hk216 (P : Params) : Obj := ⟨.type "code", none, .fields #[.str (.ofString "_law_box") (nat_lit 492), .str (.ofString "_law_box") (nat_lit 493), .str (.ofString "/claim/cut.py") (nat_lit 494), .int 179 (nat_lit 0), .int 1 (nat_lit 0), .int 0 (nat_lit 0), .int 0 (nat_lit 0), .int 3 (nat_lit 0), .ref (nat_lit 213), .bool true, .int 181 (nat_lit 0), .ref (nat_lit 214), .none, .none, .none, .ref (nat_lit 215), .int 495 (nat_lit 0), .int 179 (nat_lit 0), .str (.ofString "/claim/cut.py") (nat_lit 496)], #[]⟩
noncomputable def hk217 (P : Params) : Obj := fO (hk_stm 19) (.ofString "_law_box") (.none) (.ofString "law_on0165_01") (nat_lit 490) (nat_lit 216)
noncomputable def hk223 (P : Params) : Obj := ⟨.type "code", none, .fields #[.str (.ofString "_law_draw") (nat_lit 498), .str (.ofString "_law_draw") (nat_lit 499), .str (.ofString "/claim/cut.py") (nat_lit 500), .int 188 (nat_lit 0), .int 2 (nat_lit 0), .int 0 (nat_lit 0), .int 0 (nat_lit 0), .int 3 (nat_lit 0), .ref (nat_lit 218), .bool true, .int 181 (nat_lit 0), .ref (nat_lit 219), .none, .ref (nat_lit 220), .ref (nat_lit 221), .ref (nat_lit 222), .int 505 (nat_lit 0), .int 188 (nat_lit 0), .str (.ofString "/claim/cut.py") (nat_lit 506)], #[]⟩
noncomputable def hk224 (P : Params) : Obj := fO (hk_stm 20) (.ofString "_law_draw") (.none) (.ofString "law_on0165_01") (nat_lit 490) (nat_lit 223)
noncomputable def hk228 (P : Params) : Obj := ⟨.type "code", none, .fields #[.str (.ofString "_law_pairs") (nat_lit 508), .str (.ofString "_law_pairs") (nat_lit 509), .str (.ofString "/claim/cut.py") (nat_lit 510), .int 199 (nat_lit 0), .int 1 (nat_lit 0), .int 0 (nat_lit 0), .int 0 (nat_lit 0), .int 3 (nat_lit 0), .ref (nat_lit 225), .bool true, .int 181 (nat_lit 0), .ref (nat_lit 226), .none, .none, .none, .ref (nat_lit 227), .int 511 (nat_lit 0), .int 199 (nat_lit 0), .str (.ofString "/claim/cut.py") (nat_lit 512)], #[]⟩
noncomputable def hk229 (P : Params) : Obj := fO (hk_stm 21) (.ofString "_law_pairs") (.none) (.ofString "law_on0165_01") (nat_lit 490) (nat_lit 228)
noncomputable def hk235 (P : Params) : Obj := ⟨.type "code", none, .fields #[.str (.ofString "_law_kernel") (nat_lit 514), .str (.ofString "_law_kernel") (nat_lit 515), .str (.ofString "/claim/cut.py") (nat_lit 516), .int 206 (nat_lit 0), .int 3 (nat_lit 0), .int 0 (nat_lit 0), .int 0 (nat_lit 0), .int 3 (nat_lit 0), .ref (nat_lit 230), .bool true, .int 181 (nat_lit 0), .ref (nat_lit 231), .none, .ref (nat_lit 232), .ref (nat_lit 233), .ref (nat_lit 234), .int 525 (nat_lit 0), .int 206 (nat_lit 0), .str (.ofString "/claim/cut.py") (nat_lit 526)], #[]⟩
noncomputable def hk236 (P : Params) : Obj := fO (hk_stm 22) (.ofString "_law_kernel") (.none) (.ofString "law_on0165_01") (nat_lit 490) (nat_lit 235)
noncomputable def hk240 (P : Params) : Obj := ⟨.type "code", none, .fields #[.str (.ofString "_law_joined") (nat_lit 528), .str (.ofString "_law_joined") (nat_lit 529), .str (.ofString "/claim/cut.py") (nat_lit 530), .int 214 (nat_lit 0), .int 2 (nat_lit 0), .int 0 (nat_lit 0), .int 0 (nat_lit 0), .int 3 (nat_lit 0), .ref (nat_lit 237), .bool true, .int 181 (nat_lit 0), .ref (nat_lit 238), .none, .none, .none, .ref (nat_lit 239), .int 531 (nat_lit 0), .int 214 (nat_lit 0), .str (.ofString "/claim/cut.py") (nat_lit 532)], #[]⟩
noncomputable def hk241 (P : Params) : Obj := fO (hk_stm 23) (.ofString "_law_joined") (.none) (.ofString "law_on0165_01") (nat_lit 490) (nat_lit 240)
noncomputable def hk245 (P : Params) : Obj := ⟨.type "code", none, .fields #[.str (.ofString "_law_is_closed") (nat_lit 534), .str (.ofString "_law_is_closed") (nat_lit 535), .str (.ofString "/claim/cut.py") (nat_lit 536), .int 219 (nat_lit 0), .int 3 (nat_lit 0), .int 0 (nat_lit 0), .int 0 (nat_lit 0), .int 3 (nat_lit 0), .ref (nat_lit 242), .bool true, .int 181 (nat_lit 0), .ref (nat_lit 243), .none, .none, .none, .ref (nat_lit 244), .int 537 (nat_lit 0), .int 219 (nat_lit 0), .str (.ofString "/claim/cut.py") (nat_lit 538)], #[]⟩
noncomputable def hk246 (P : Params) : Obj := fO (hk_stm 24) (.ofString "_law_is_closed") (.none) (.ofString "law_on0165_01") (nat_lit 490) (nat_lit 245)
noncomputable def hk250 (P : Params) : Obj := ⟨.type "code", none, .fields #[.str (.ofString "law") (nat_lit 540), .str (.ofString "law") (nat_lit 541), .str (.ofString "/claim/cut.py") (nat_lit 542), .int 226 (nat_lit 0), .int 1 (nat_lit 0), .int 0 (nat_lit 0), .int 0 (nat_lit 0), .int 3 (nat_lit 0), .ref (nat_lit 247), .bool true, .int 181 (nat_lit 0), .ref (nat_lit 248), .none, .none, .none, .ref (nat_lit 249), .int 543 (nat_lit 0), .int 226 (nat_lit 0), .str (.ofString "/claim/cut.py") (nat_lit 544)], #[]⟩
noncomputable def hk251 (P : Params) : Obj := fO (hk_stm 25) (.ofString "law") (.none) (.ofString "law_on0165_01") (nat_lit 490) (nat_lit 250)
/-- the written part -/
noncomputable def Kf : Params → Frag := fun P => (nat_lit 2, hk2 P) :: (nat_lit 3, hk3 P) :: (nat_lit 25, hk25 P) :: (nat_lit 26, hk26 P) :: (nat_lit 32, hk32 P) :: (nat_lit 33, hk33 P) :: (nat_lit 39, hk39 P) :: (nat_lit 40, hk40 P) :: (nat_lit 46, hk46 P) :: (nat_lit 47, hk47 P) :: (nat_lit 53, hk53 P) :: (nat_lit 54, hk54 P) :: (nat_lit 95, hk95 P) :: (nat_lit 103, hk103 P) :: (nat_lit 109, hk109 P) :: (nat_lit 110, hk110 P) :: (nat_lit 112, hk112 P) :: (nat_lit 113, hk113 P) :: (nat_lit 128, hk128 P) :: (nat_lit 129, hk129 P) :: (nat_lit 135, hk135 P) :: (nat_lit 136, hk136 P) :: (nat_lit 142, hk142 P) :: (nat_lit 143, hk143 P) :: (nat_lit 163, hk163 P) :: (nat_lit 164, hk164 P) :: (nat_lit 170, hk170 P) :: (nat_lit 171, hk171 P) :: (nat_lit 177, hk177 P) :: (nat_lit 178, hk178 P) :: (nat_lit 184, hk184 P) :: (nat_lit 185, hk185 P) :: (nat_lit 191, hk191 P) :: (nat_lit 192, hk192 P) :: (nat_lit 194, hk194 P) :: (nat_lit 195, hk195 P) :: (nat_lit 205, hk205 P) :: (nat_lit 206, hk206 P) :: (nat_lit 207, hk207 P) :: (nat_lit 211, hk211 P) :: (nat_lit 212, hk212 P) :: (nat_lit 216, hk216 P) :: (nat_lit 217, hk217 P) :: (nat_lit 223, hk223 P) :: (nat_lit 224, hk224 P) :: (nat_lit 228, hk228 P) :: (nat_lit 229, hk229 P) :: (nat_lit 235, hk235 P) :: (nat_lit 236, hk236 P) :: (nat_lit 240, hk240 P) :: (nat_lit 241, hk241 P) :: (nat_lit 245, hk245 P) :: (nat_lit 246, hk246 P) :: (nat_lit 250, hk250 P) :: (nat_lit 251, hk251 P) :: []
def Ka : List Addr := [2, 3, 25, 26, 32, 33, 39, 40, 46, 47, 53, 54, 95, 103, 109, 110, 112, 113, 128, 129, 135, 136, 142, 143, 163, 164, 170, 171, 177, 178, 184, 185, 191, 192, 194, 195, 205, 206, 207, 211, 212, 216, 217, 223, 224, 228, 229, 235, 236, 240, 241, 245, 246, 250, 251]
noncomputable def Vw : Program := { PySem.Challenge.pw_on0165_01 with main := { PySem.Challenge.pw_on0165_01.main with body := [hk_stm 25] } }
def LO : List Str := [.ofString "_wall", .ofString "spread", .ofString "nullable", .ofString "first_of", .ofString "first_masks", .ofString "closure_one", .ofString "ToolError", .ofString "GrammarError", .ofString "END", .ofString "OWN_TERMINALS", .ofString "Rule", .ofString "Grammar", .ofString "last_terminal", .ofString "plain_grammar", .ofString "_law_box", .ofString "_law_draw", .ofString "_law_pairs", .ofString "_law_kernel", .ofString "_law_joined", .ofString "_law_is_closed"]
noncomputable abbrev HKK : Hook := kHook Kf Ka (fun _ => by kernel_rfl)
theorem left_of_boot {p q : Program} {loose : List Str} {Xt : Shared → Bool} {α : Type} {Yf : Shared → α} {Ya : World → α} {N : Nat} {g0 : Bool} (e : opening p = plainProg p.main.scope.names) (hN : Nat.ble 600 N = true) (f : ∀ s, fenceModules? p s = some s)
    (h : ∀ w os, (topFrom treeTable p w N ⟨boot_heap w.params, Array.mk [], boot_drawn, boot_toks, os⟩).map (fun s => (openSeen q loose (importedModules p.main.body) Xt g0 s, Yf s)) = some (openGood q loose, Ya w)) : LeftO p q loose Xt Yf Ya N g0 := fun w => by
  obtain ⟨s, hs, hv⟩ := Option.map_eq_some_iff.mp (boot_open e hN f w)
  unfold openEnds
  rw [hs]
  obtain ⟨hp, g, d, t, os⟩ := s
  simp only [Prod.mk.injEq] at hv
  obtain ⟨rfl, rfl, rfl, rfl⟩ := hv
  exact h w os
set_option maxRecDepth 100000 in
set_option maxHeartbeats 0 in
theorem hk_left : LeftO PySem.Challenge.pw_on0165_01 Vw LO (fun s => xlAt Vw [] s && recOk [] s) (Hook.obs HKK) (Hook.val HKK) 3632 := by
  refine left_of_boot (by rfl) (by rfl) (fun s => by rfl) fun w os => ?_
  unfold topFrom
  rw [PySem.W.Fast.te14082659384304107361, PySem.W.Fast.te4187177175401517315, PySem.W.Fast.te14364793385576792824, PySem.W.Fast.te5923862056798008813]
  kernel_rfl
set_option maxRecDepth 100000 in
theorem hk_s1 : namesResolve PySem.Challenge.rw_on0165_01.row.prog = true := by kernel_rfl
set_option maxRecDepth 100000 in
theorem hk_s2 : noRoadLSs { strict := !(importedModules PySem.Challenge.rw_on0165_01.row.prog.main.body).all cThrough.contains, foot := none, bare := (["vars", "dir", "locals"] : List Str).filter (readsOut PySem.Challenge.rw_on0165_01.row.prog PySem.Challenge.rw_on0165_01.row.prog.main.body) } PySem.Challenge.rw_on0165_01.row.prog.main.body = true := by
  rw [PySem.W.Fast.te8326940854005059898]
  kernel_rfl
set_option maxRecDepth 100000 in
theorem hk_s3 : (namesMeet PySem.Challenge.rw_on0165_01.row.prog PySem.Challenge.rw_on0165_01.row.prog.main.body fun _ n => attrL n) = true := by
  rw [PySem.W.Fast.te17119622794617984870]
  kernel_rfl
set_option maxRecDepth 100000 in
theorem hk_row : PySem.Challenge.rw_on0165_01.row.wellSaid = true := by
  unfold OpenRow.wellSaid OpenRow.partSaid looksOpen
  rw [hk_s1, hk_s2, hk_s3]
  kernel_rfl
set_option maxRecDepth 100000 in
theorem hk_said : PySem.Challenge.rw_on0165_01.wellSaid = true := by
  unfold OpenLaw.wellSaid
  rw [hk_row]
  kernel_rfl
set_option maxRecDepth 100000 in
theorem hk_ok : (chainsOk Vw && opensWell PySem.Challenge.rw_on0165_01.row.prog && (frees PySem.Challenge.rw_on0165_01.row.toRowW && PySem.Challenge.rw_on0165_01.row.within.isEmpty)) = true := by decide +kernel
set_option maxRecDepth 100000 in
theorem hk_bare : PySem.Challenge.rw_on0165_01.row.prog.bare := ⟨rfl, rfl, rfl, rfl, rfl, by decide +kernel⟩
noncomputable abbrev PG : Program := PySem.Challenge.rw_on0165_01.row.prog
noncomputable abbrev KK (w : World) : Frag := Kf w.params
noncomputable abbrev LS : List Str := looseW Vw LO

/-- what never changes in the call -/
structure Fix where
  w : World
  B : Heap
  mg : Str → Option Value
  mb : Str → Option Value
  s0 : Shared

structure Fix.Ok (c : Fix) : Prop where
  K : (KK c.w).In c.B
  two : ∃ o, c.B.get? 2 = some o
  T : TopRead Vw LS c.mg c.mb c.B

/-- the state: the base kept, frozen objects Z, live objects W -/
structure St (c : Fix) (Z : List (Addr × Obj)) (W : List (Addr × (Obj → Prop))) (s : Shared) : Prop where
  ok : c.Ok
  keep : ∀ b o, c.B.get? b = some o → s.heap.get? b = some o
  frozen : ∀ p ∈ Z, s.heap.get? p.1 = some p.2
  live : ∀ p ∈ W, ∃ o, s.heap.get? p.1 = some o ∧ p.2 o
  off : ∀ p ∈ W, c.B.get? p.1 = none ∧ ∀ q ∈ Z, q.1 ≠ p.1
  nodup : (W.map (·.1)).Nodup
  gens : s.gens = c.s0.gens
  drawn : s.drawn = c.s0.drawn
  os : s.os = c.s0.os
  big : (∀ p ∈ W, p.1 ≠ 1) ∧ ∀ p ∈ Z, p.1 ≠ 1

section
variable {c : Fix} {Z Z' : List (Addr × Obj)} {W W' : List (Addr × (Obj → Prop))} {s s' : Shared} {a : Addr} {P P' : Obj → Prop} {o : Obj}

theorem St.toks (H : St c Z W s) (t : Nat) : St c Z W { s with toks := t } := ⟨H.ok, H.keep, H.frozen, H.live, H.off, H.nodup, H.gens, H.drawn, H.os, H.big⟩

theorem St.heap (H : St c Z W s) {h' : Heap} (hk : ∀ b o, s.heap.get? b = some o → h'.get? b = some o) (t : Nat) : St c Z W { s with heap := h', toks := t } :=
  ⟨H.ok, fun b o e => hk b o (H.keep b o e), fun p hp => hk _ _ (H.frozen p hp), fun p hp => let ⟨o, ho, h⟩ := H.live p hp; ⟨o, hk _ _ ho, h⟩, H.off, H.nodup, H.gens, H.drawn, H.os, H.big⟩

theorem St.size_off (H : St c Z W s) : c.B.get? s.heap.objs.size = none ∧ (∀ q ∈ Z, q.1 ≠ s.heap.objs.size) ∧ ∀ p ∈ W, p.1 ≠ s.heap.objs.size := by
  refine ⟨?_, fun q hq e => ?_, fun p hp e => ?_⟩
  · cases e : c.B.get? s.heap.objs.size with
    | none => rfl
    | some o => exact absurd (Heap.lt_size (H.keep _ _ e)) (Nat.lt_irrefl _)
  · exact absurd (Heap.lt_size (H.frozen q hq)) (by rw [e]; exact Nat.lt_irrefl _)
  · obtain ⟨o, ho, _⟩ := H.live p hp
    exact absurd (Heap.lt_size ho) (by rw [e]; exact Nat.lt_irrefl _)

theorem St.size_big (H : St c Z W s) : s.heap.objs.size ≠ 1 := by
  obtain ⟨o, ho⟩ := H.ok.two
  have := Heap.lt_size (H.keep _ _ ho)
  exact fun e => by rw [e] at this; exact absurd this (by decide)

/-- a new object -/
theorem St.new (H : St c Z W s) {h' : Heap} (hk : ∀ b o, s.heap.get? b = some o → h'.get? b = some o) (ha : h'.get? s.heap.objs.size = some o) (hp : P o) (t : Nat) :
    St c Z ((s.heap.objs.size, P) :: W) { s with heap := h', toks := t } := by
  obtain ⟨h1, h2, h3⟩ := H.size_off
  refine ⟨H.ok, fun b o e => hk b o (H.keep b o e), fun p hp => hk _ _ (H.frozen p hp), fun p hp' => ?_, fun p hp' => ?_, ?_, H.gens, H.drawn, H.os, fun p hp' => (List.mem_cons.mp hp').elim (fun e => by rw [e]; exact H.size_big) (H.big.1 p), H.big.2⟩
  · rcases List.mem_cons.mp hp' with rfl | hp'
    · exact ⟨o, ha, hp⟩
    · obtain ⟨o', ho', h⟩ := H.live p hp'; exact ⟨o', hk _ _ ho', h⟩
  · rcases List.mem_cons.mp hp' with rfl | hp'
    · exact ⟨h1, h2⟩
    · exact H.off p hp'
  · rw [List.map_cons, List.nodup_cons]
    refine ⟨fun hm => ?_, H.nodup⟩
    obtain ⟨p, hp', e⟩ := List.mem_map.mp hm
    exact h3 p hp' e

theorem St.push (H : St c Z W s) (hp : P o) (hf : o.isFreed = false) (t : Nat) : St c Z ((s.heap.objs.size, P) :: W) { s with heap := s.heap.push o, toks := t } :=
  H.new (fun _ _ e => Heap.get?_push_of_some _ e) (Heap.get?_push_size _ hf) hp t

theorem nodup_unique {W : List (Addr × (Obj → Prop))} (h : (W.map (·.1)).Nodup) {i j : Nat} {p q : Addr × (Obj → Prop)} (hi : W[i]? = some p) (hj : W[j]? = some q) (e : p.1 = q.1) : i = j := by
  have hi' : (W.map (·.1))[i]? = some p.1 := by rw [List.getElem?_map, hi]; rfl
  have hj' : (W.map (·.1))[j]? = some p.1 := by rw [List.getElem?_map, hj, e]; rfl
  exact (List.getElem?_inj (List.getElem?_eq_some_iff.mp hi').1 h).mp (hi'.trans hj'.symm)

/-- a live object turns -/
theorem St.put (H : St c Z W s) {i : Nat} (hi : W[i]? = some (a, P)) {h' : Heap} (hk : ∀ b o, b ≠ a → s.heap.get? b = some o → h'.get? b = some o) (ha : h'.get? a = some o) (hp : P' o) (t : Nat) :
    St c Z (W.set i (a, P')) { s with heap := h', toks := t } := by
  have hm : (a, P) ∈ W := List.mem_of_getElem? hi
  obtain ⟨h1, h2⟩ := H.off _ hm
  have hmap : (W.set i (a, P')).map (·.1) = W.map (·.1) := by
    rw [List.map_set]
    refine List.ext_getElem? fun j => ?_
    rw [List.getElem?_set]
    split
    · subst_vars
      split
      · rw [List.getElem?_map, hi]; rfl
      · rename_i h; rw [List.getElem?_eq_none (Nat.le_of_not_lt h)]
    · rfl
  have key : ∀ p ∈ W.set i (a, P'), p = (a, P') ∨ (p ∈ W ∧ p.1 ≠ a) := fun p hp' => by
    obtain ⟨j, hj⟩ := List.mem_iff_getElem?.mp hp'
    rw [List.getElem?_set] at hj
    split at hj
    · split at hj
      · exact .inl (Option.some.inj hj).symm
      · cases hj
    · rename_i hne
      exact .inr ⟨List.mem_of_getElem? hj, fun e => hne (nodup_unique H.nodup hi hj e.symm)⟩
  refine ⟨H.ok, fun b o' e => hk b o' (fun q => by subst q; rw [h1] at e; cases e) (H.keep b o' e), fun p hp' => hk _ _ (h2 p hp') (H.frozen p hp'), fun p hp' => ?_, fun p hp' => ?_, by rw [hmap]; exact H.nodup, H.gens, H.drawn, H.os, fun p hp' => (key p hp').elim (fun e => by rw [e]; exact H.big.1 (a, P) hm) (fun q => H.big.1 p q.1), H.big.2⟩
  · rcases key p hp' with rfl | ⟨q, n⟩
    · exact ⟨o, ha, hp⟩
    · obtain ⟨o', ho', h⟩ := H.live p q; exact ⟨o', hk _ _ n ho', h⟩
  · rcases key p hp' with rfl | ⟨q, n⟩
    · exact ⟨h1, h2⟩
    · exact H.off p q

theorem St.rd (H : St c Z W s) {i : Nat} (hi : W[i]? = some (a, P)) : ∃ o, s.heap.get? a = some o ∧ P o := H.live _ (List.mem_of_getElem? hi)

/-- fewer live objects, in any order -/
theorem St.less (H : St c Z W s) (hs : ∀ p ∈ W', p ∈ W) (hn : (W'.map (·.1)).Nodup) : St c Z W' s :=
  ⟨H.ok, H.keep, H.frozen, fun p hp => H.live p (hs p hp), fun p hp => H.off p (hs p hp), hn, H.gens, H.drawn, H.os, fun p hp => H.big.1 p (hs p hp), H.big.2⟩
theorem St.perm (H : St c Z W s) (h : W.Perm W') : St c Z W' s := H.less (fun _ hp => h.mem_iff.mpr hp) ((h.map _).nodup_iff.mp H.nodup)
theorem St.sub (H : St c Z W s) (h : W'.Sublist W) : St c Z W' s := H.less (fun _ hp => h.subset hp) ((h.map _).nodup H.nodup)
theorem St.tail {p} (H : St c Z (p :: W) s) : St c Z W s := H.sub (List.sublist_cons_self _ _)

theorem St.swap {p q} (H : St c Z (p :: q :: W) s) : St c Z (q :: p :: W) s := H.perm (List.Perm.swap _ _ _)
theorem St.rot3 {p q r} (H : St c Z (p :: q :: r :: W) s) : St c Z (r :: p :: q :: W) s := H.perm (((List.Perm.swap r q W).cons p).trans (List.Perm.swap r p (q :: W)))
/-- an object is frozen -/
theorem St.freeze (H : St c Z ((a, P) :: W) s) : ∃ o, P o ∧ s.heap.get? a = some o ∧ St c ((a, o) :: Z) W s := by
  obtain ⟨o, ho, hp⟩ := H.live _ (List.mem_cons_self ..)
  refine ⟨o, hp, ho, H.ok, H.keep, fun p hp' => ?_, fun p hp' => H.live p (.tail _ hp'), fun p hp' => ⟨(H.off p (.tail _ hp')).1, fun q hq => ?_⟩, ?_, H.gens, H.drawn, H.os, fun p hp => H.big.1 p (.tail _ hp), fun p hp => (List.mem_cons.mp hp).elim (fun e => by rw [e]; exact H.big.1 _ (List.mem_cons_self ..)) (H.big.2 p)⟩
  · rcases List.mem_cons.mp hp' with rfl | hp'
    · exact ho
    · exact H.frozen p hp'
  · rcases List.mem_cons.mp hq with rfl | hq
    · have := H.nodup
      rw [List.map_cons, List.nodup_cons] at this
      exact fun e => this.1 (List.mem_map.mpr ⟨p, hp', e.symm⟩)
    · exact (H.off p (.tail _ hp')).2 q hq
  · have := H.nodup
    rw [List.map_cons, List.nodup_cons] at this
    exact this.2

/-- what is said of a live object may be said weaker -/
theorem St.weak (H : St c Z ((a, P) :: W) s) (h : ∀ o, P o → P' o) : St c Z ((a, P') :: W) s :=
  ⟨H.ok, H.keep, H.frozen, fun p hp => by
    rcases List.mem_cons.mp hp with rfl | hp
    · obtain ⟨o, ho, q⟩ := H.live _ (List.mem_cons_self ..); exact ⟨o, ho, h o q⟩
    · exact H.live p (.tail _ hp), fun p hp => by
    rcases List.mem_cons.mp hp with rfl | hp
    · exact H.off (a, P) (List.mem_cons_self ..)
    · exact H.off p (.tail _ hp), H.nodup, H.gens, H.drawn, H.os, fun p hp => by
    rcases List.mem_cons.mp hp with rfl | hp
    · exact H.big.1 (a, P) (List.mem_cons_self ..)
    · exact H.big.1 p (.tail _ hp), H.big.2⟩
end

/-- what is said of a frozen object -/
def Zs (Z : List (Addr × Obj)) (a : Addr) (P : Obj → Prop) : Prop := ∃ o, (a, o) ∈ Z ∧ P o
theorem Zs.mono {Z Z' : List (Addr × Obj)} {a : Addr} {P : Obj → Prop} (h : Zs Z a P) (hz : ∀ p ∈ Z, p ∈ Z') : Zs Z' a P := let ⟨o, ho, hp⟩ := h; ⟨o, hz _ ho, hp⟩
theorem St.zs {c : Fix} {Z : List (Addr × Obj)} {W : List (Addr × (Obj → Prop))} {s : Shared} {a : Addr} {P : Obj → Prop} (H : St c Z W s) (h : Zs Z a P) : ∃ o, s.heap.get? a = some o ∧ P o :=
  let ⟨o, ho, hp⟩ := h; ⟨o, H.frozen _ ho, hp⟩

/-- the kinds of objects -/
def NS (m : Str → Option Value) (o : Obj) : Prop := ∃ es ep, o.data = .dict es ep ∧ StrKeys es ∧ ∀ name, nsFind es name = m name
def LIST (xs : List Value) (o : Obj) : Prop := ∃ n, o = { cls := .type "list", data := .seq xs.toArray n }
def TUP (xs : List Value) (o : Obj) : Prop := ∃ n, o = { cls := .type "tuple", data := .seq xs.toArray n }
def CELL (v : Option Value) (o : Obj) : Prop := o.data = .cell v
def DICT (w : World) (kvs : List (Int × Value)) (o : Obj) : Prop := ∃ es ep, o.ExactDict ∧ o.data = .dict es ep ∧ PySem.KeysOf (intKind PG w) es ∧ Pairs (intKind PG w) es.toList kvs ∧ (kvs.map (·.1)).Nodup

theorem ns_of {h : Heap} {a : Addr} {m} (e : ∃ o, h.get? a = some o ∧ NS m o) : h.Ns a m := let ⟨o, ho, es, ep, r⟩ := e; ⟨o, es, ep, ho, r⟩
theorem of_ns {h : Heap} {a : Addr} {m} (e : h.Ns a m) : ∃ o, h.get? a = some o ∧ NS m o := let ⟨o, es, ep, ho, r⟩ := e; ⟨o, ho, es, ep, r⟩
theorem list_of {h : Heap} {a : Addr} {xs : List Value} (e : ∃ o, h.get? a = some o ∧ LIST xs o) : h.IsList a xs.toArray := let ⟨_, ho, n, q⟩ := e; ⟨_, ho, by rw [q], n, by rw [q]⟩
theorem list_at {h : Heap} {a : Addr} {xs : List Value} (e : ∃ o, h.get? a = some o ∧ LIST xs o) : ∃ n, h.get? a = some { cls := .type "list", data := .seq xs.toArray n } := let ⟨_, ho, n, q⟩ := e; ⟨n, by rw [ho, q]⟩
theorem tup_of {h : Heap} {a : Addr} {xs : List Value} (e : ∃ o, h.get? a = some o ∧ TUP xs o) : IsTup h a xs.toArray := let ⟨_, ho, n, q⟩ := e; ⟨_, ho, by rw [q], n, by rw [q]⟩
theorem tup_at {h : Heap} {a : Addr} {xs : List Value} (e : ∃ o, h.get? a = some o ∧ TUP xs o) : ∃ n, h.get? a = some { cls := .type "tuple", data := .seq xs.toArray n } := let ⟨_, ho, n, q⟩ := e; ⟨n, by rw [ho, q]⟩
theorem dict_of {w : World} {h : Heap} {a : Addr} {kvs} (e : ∃ o, h.get? a = some o ∧ DICT w kvs o) : h.DictOf (intKind PG w) a kvs := let ⟨o, ho, es, ep, r⟩ := e; ⟨o, es, ep, ho, r⟩
theorem of_dict {w : World} {h : Heap} {a : Addr} {kvs} (e : h.DictOf (intKind PG w) a kvs) : ∃ o, h.get? a = some o ∧ DICT w kvs o := let ⟨o, es, ep, ho, r⟩ := e; ⟨o, ho, es, ep, r⟩

/-- a frame's names -/
def up (m : Str → Option Value) (x : Str) (v : Value) : Str → Option Value := fun y => if y = x then some v else m y
theorem up_hit {m : Str → Option Value} {x : Str} {v : Value} : up m x v x = some v := if_pos rfl
theorem up_miss {m : Str → Option Value} {x y : Str} {v : Value} {r : Option Value} (h : y ≠ x) (h2 : m y = r) : up m x v y = r := (if_neg h).trans h2

abbrev NoE : Value → Shared → Prop := fun _ _ => False

/-- what a place in the run must offer: room -/
structure Am (A : Around) (d : Nat) : Prop where
  hh : A.handled = none
  dep : A.depth + 4 * d < 900
  un : A.units + 20 * d < 9000
theorem Am.less {A : Around} {d d' : Nat} (h : Am A d) (hd : d' ≤ d) : Am A d' := ⟨h.hh, by have := h.dep; omega, by have := h.un; omega⟩
theorem Am.deeper {A : Around} {d : Nat} (h : Am A (d + 1)) (env : Env) : Am (A.deeper env) d := ⟨h.hh, by have := h.dep; show A.depth + 1 + _ < _; omega, by have := h.un; show A.units + 3 + _ < _; omega⟩
/-- (a, P) turns to (a, P') in the ledger -/
inductive Rep (a : Addr) (P P' : Obj → Prop) : List (Addr × (Obj → Prop)) → List (Addr × (Obj → Prop)) → Prop
  | head {r} : Rep a P P' ((a, P) :: r) ((a, P') :: r)
  | tail {p r r'} : Rep a P P' r r' → Rep a P P' (p :: r) (p :: r')
theorem Rep.at {a : Addr} {P P' : Obj → Prop} : ∀ {W W'}, Rep a P P' W W' → ∃ i, W[i]? = some (a, P) ∧ W' = W.set i (a, P')
  | _, _, .head => ⟨0, rfl, rfl⟩
  | _, _, .tail h => let ⟨i, h1, h2⟩ := h.at; ⟨i + 1, by simpa using h1, by rw [h2]; rfl⟩

section
variable {c : Fix} {Z : List (Addr × Obj)} {W W' : List (Addr × (Obj → Prop))} {s : Shared} {a : Addr} {P P' : Obj → Prop} {o : Obj}
theorem St.get (H : St c Z W s) (hm : (a, P) ∈ W) : ∃ o, s.heap.get? a = some o ∧ P o := H.live _ hm
theorem Rep.mem (h : Rep a P P' W W') : (a, P) ∈ W := let ⟨_, h1, _⟩ := h.at; List.mem_of_getElem? h1
theorem St.turn (H : St c Z W s) (hr : Rep a P P' W W') {h' : Heap} (hk : ∀ b o, b ≠ a → s.heap.get? b = some o → h'.get? b = some o) (ha : ∃ o, h'.get? a = some o ∧ P' o) (t : Nat) :
    St c Z W' { s with heap := h', toks := t } := by
  obtain ⟨i, h1, rfl⟩ := hr.at
  obtain ⟨o, ho, hp⟩ := ha
  exact H.put h1 hk ho hp t
theorem St.turnS (H : St c Z W s) (hr : Rep a P P' W W') {h' : Heap} (hs : Heap.SameBut a s.heap h') (ha : ∃ o, h'.get? a = some o ∧ P' o) (t : Nat) : St c Z W' { s with heap := h', toks := t } :=
  H.turn hr (fun b o n e => (hs.2 b n).trans e) ha t
theorem St.KIn (H : St c Z W s) : (KK c.w).In s.heap := H.ok.K.keeps H.keep
theorem St.T (H : St c Z W s) : TopRead Vw LS c.mg c.mb s.heap := H.ok.T.keeps H.keep
theorem St.noLimit (H : St c Z W s) : s.heap.NoLimit := H.T.nolimit
end

theorem mapSeq_set {xs : List Value} {n j : Nat} {v : Value} : LIST (xs.set j v) (Obj.mapSeq (·.setIfInBounds j v) { cls := .type "list", data := .seq xs.toArray n }) := by
  refine ⟨n, ?_⟩
  simp [Obj.mapSeq]
theorem setItem_plain {prog : Program} {w : World} {A : Around} {E : Value → Shared → Prop} {s : Shared} {Q : Unit → Shared → Prop} {l : Addr} {xs : List Value} {n : Nat} {i : Int} {t : Tok} {v : Value} (ho : s.heap.get? l = some { cls := .type "list", data := .seq xs.toArray n })
    (h0 : 0 ≤ i) (hb : i < xs.length) (hz : (xs.length : Int) < 2 ^ 63) (fin : Q () { s with heap := s.heap.update l (Obj.mapSeq (·.setIfInBounds i.toNat v)) }) : wpAny (model prog w) A (setItem (.ref l) (.int i t) v) Q E s := by
  have hf := fitsIndex_of h0 (show i < 2 ^ 63 by omega)
  clear hz
  have hT : s.TypeIs (.ref l) "list" := ⟨_, ho, rfl⟩
  unfold setItem
  try with_reducible refine wpAny_holding ?_
  first | refine wpAny_bind (wpAny_pure ?_) | skip
  refine wpAny_bind (wpAny_sequenceKey hT (by decide) ?_)
  refine wpAny_bind (wpAny_callSpecial?_slot (name := Str.ofString "__setitem__") hT slot_list_setitem (wpAny_call_entry slot_list_setitem hT entry_list_setitem ?_ (args_list_setitem _ _ _)))
  show wpAny _ _ (Builtin.List.listSubscript? (.int i t) >>= _) _ _ s
  refine wpAny_bind (wpAny_listSubscript_int hf ?_)
  clear hf
  obtain ⟨j, rfl⟩ := Int.eq_ofNat_of_zero_le h0
  have hj : j < xs.toArray.size := by rw [List.size_toArray]; omega
  show wpAny _ _ ((seqItemAt l j >>= fun r => pure (r.map (j, ·))) >>= _) _ _ s
  refine wpAny_bind (wpAny_bind (wpAny_seqItemAt ho rfl (wpAny_pure ?_)))
  rw [Array.getElem?_eq_getElem hj]
  show wpAny _ _ (setSeqItemAt l j v >>= _) _ _ s
  refine wpAny_bind (wpAny_setSeqItemAt ho rfl ?_)
  first
    | exact wpAny_bind (wpAny_pure (wpAny_pure ⟨.none, rfl, wpAny_pure fin⟩))
    | exact wpAny_pure ⟨.none, rfl, wpAny_pure fin⟩

/-! leaves -/
section
variable {c : Fix} {Z : List (Addr × Obj)} {W W' : List (Addr × (Obj → Prop))} {s : Shared} {A : Around} {E : Value → Shared → Prop} {env : Env} {m : Str → Option Value} {x : Str} {v : Value} {pos : Pos}


theorem e_loc {Q : Value → Shared → Prop} {L : Addr} (H : St c Z W s) (hm : (L, NS m) ∈ W) (hL : env.locals = L) (hv : m x = some v) (k : Q v s) (hk : env.scope.kind = .function) (hx : env.kindOf x = some .local) (hd : (x == ("__debug__" : Str)) = false) :
    wpAny (model PG c.w) A (eval (.Name x pos) env) Q E s := wpAny_Name (wpAny_loadName_local hk hx (by subst hL; exact ns_of (H.get hm)) hv k) hd
theorem e_cell {Q : Value → Shared → Prop} {ca : Addr} (H : St c Z W s) (hc : env.cells.lookup x = some ca) (hm : (ca, CELL (some v)) ∈ W) (k : Q v s) (hk : env.scope.kind = .function) (hx : env.kindOf x = some .cell) (hd : (x == ("__debug__" : Str)) = false) :
    wpAny (model PG c.w) A (eval (.Name x pos) env) Q E s := let ⟨o, ho, hp⟩ := H.get hm; wpAny_Name (wpAny_loadName_cell hk hx hc ⟨o, ho, hp⟩ k) hd
theorem e_free {Q : Value → Shared → Prop} {ca : Addr} (H : St c Z W s) (hc : env.cells.lookup x = some ca) (hm : (ca, CELL (some v)) ∈ W) (k : Q v s) (hk : env.scope.kind = .function) (hx : env.kindOf x = some .free) (hd : (x == ("__debug__" : Str)) = false)
    (hn : (x == ("__classdict__" : Str)) = false) : wpAny (model PG c.w) A (eval (.Name x pos) env) Q E s := let ⟨o, ho, hp⟩ := H.get hm; wpAny_Name (wpAny_loadName_free hk hx hc ⟨o, ho, hp⟩ k hn) hd
theorem e_glob {Q : Value → Shared → Prop} (H : St c Z W s) (e : nsIn (KK c.w) mainGlobals x = some (some v)) (k : Q v s) (hg : env.globals = mainGlobals) (hk : env.scope.kind = .function) (hx : env.kindOf x = some .globalImplicit) (hd : (x == ("__debug__" : Str)) = false) :
    wpAny (model PG c.w) A (eval (.Name x pos) env) Q E s := Name_function_global hk hx (loadGlobal_global (env := env) (hg ▸ H.T.g) (mg_of H.ok.K H.ok.T.g e) k) hd
theorem e_built {Q : Value → Shared → Prop} (H : St c Z W s) (e : nsIn (KK c.w) mainGlobals x = some none) (hv : bootBuiltins x = some v) (hn : x ≠ "__name__") (k : Q v s) (hg : env.globals = mainGlobals) (hb : env.builtins = builtinsNs) (hk : env.scope.kind = .function) (hx : env.kindOf x = some .globalImplicit) (hd : (x == ("__debug__" : Str)) = false) :
    wpAny (model PG c.w) A (eval (.Name x pos) env) Q E s := Name_function_global hk hx (loadGlobal_builtin (env := env) (hg ▸ H.T.g) (mg_none_of H.ok.K H.ok.T.g e) (hb ▸ H.T.b) ((H.ok.T.builtins x hn).trans hv) k) hd

theorem e_int {i : Int} {kk : Nat} {Q : Value → Shared → Prop} (H : St c Z W s) (k : ∀ t s', St c Z W s' → Q (.int i t) s') : wpAny (model PG c.w) A (eval (.Constant (.int i) kk pos) env) Q E s := wpAny_Constant_int (k _ _ (H.toks _))
theorem e_str {i : Str} {kk : Nat} {Q : Value → Shared → Prop} (H : St c Z W s) (k : ∀ t s', St c Z W s' → Q (.str i t) s') : wpAny (model PG c.w) A (eval (.Constant (.str i) kk pos) env) Q E s := wpAny_Constant_str (k _ _ (H.toks _))

section
variable {a b : Int} {t u : Tok} {Q : Value → Shared → Prop}
theorem r_add (H : St c Z W s) (k : ∀ t s', St c Z W s' → Q (.int (a + b) t) s') : wpAny (model PG c.w) A (binaryOp .Add (.int a t) (.int b u)) Q E s := add_int (k _ _ (H.toks _))
theorem r_sub (H : St c Z W s) (k : ∀ t s', St c Z W s' → Q (.int (a - b) t) s') : wpAny (model PG c.w) A (binaryOp .Sub (.int a t) (.int b u)) Q E s := sub_int (k _ _ (H.toks _))
theorem r_mul (H : St c Z W s) (hm : IntMulOk a b) (k : ∀ t s', St c Z W s' → Q (.int (a * b) t) s') : wpAny (model PG c.w) A (binaryOp .Mult (.int a t) (.int b u)) Q E s := mul_int (k _ _ (H.toks _)) hm
theorem r_mod (H : St c Z W s) (hb : b ≠ 0) (k : ∀ t s', St c Z W s' → Q (.int (a.fmod b) t) s') : wpAny (model PG c.w) A (binaryOp .Mod (.int a t) (.int b u)) Q E s := mod_int' hb (k _ _ (H.toks _))
theorem r_div (H : St c Z W s) (hb : b ≠ 0) (hp : b.natAbs < 1073741824) (k : ∀ t s', St c Z W s' → Q (.int (a.fdiv b) t) s') : wpAny (model PG c.w) A (binaryOp .FloorDiv (.int a t) (.int b u)) Q E s :=
  floordiv_int hb (k _ _ (H.toks _)) (Or.inl (PyProof.noPylong_small (by omega)))
theorem r_or (H : St c Z W s) (k : ∀ t s', St c Z W s' → Q (.int (Builtin.bitOr a b) t) s') : wpAny (model PG c.w) A (binaryOp .BitOr (.int a t) (.int b u)) Q E s := or_int (k _ _ (H.toks _))
theorem r_and (H : St c Z W s) (k : ∀ t s', St c Z W s' → Q (.int (Builtin.bitAnd a b) t) s') : wpAny (model PG c.w) A (binaryOp .BitAnd (.int a t) (.int b u)) Q E s := and_int (k _ _ (H.toks _))
theorem r_shl (H : St c Z W s) (hn : 0 ≤ b) (hn2 : b ≤ 1000000) (ha : a.natAbs < 2 ^ 64) (k : ∀ t s', St c Z W s' → Q (.int (a * 2 ^ b.toNat) t) s') : wpAny (model PG c.w) A (binaryOp .LShift (.int a t) (.int b u)) Q E s := lshift_int_small hn hn2 ha (k _ _ (H.toks _))
theorem r_pow (H : St c Z W s) (hn : 0 ≤ b) (hsz : (Builtin.Int.intBits a : Int) * b ≤ 2 ^ 27) (k : ∀ t s', St c Z W s' → Q (.int (a ^ b.toNat) t) s') : wpAny (model PG c.w) A (binaryOp .Pow (.int a t) (.int b u)) Q E s := pow_int hn hsz (k _ _ (H.toks _))
theorem r_inv (H : St c Z W s) (k : ∀ t s', St c Z W s' → Q (.int (Builtin.bitNot a) t) s') : wpAny (model PG c.w) A (unaryOp .Invert (.int a t)) Q E s := invert_int (k _ _ (H.toks _))
theorem r_neg (H : St c Z W s) (k : ∀ t s', St c Z W s' → Q (.int (-a) t) s') : wpAny (model PG c.w) A (unaryOp .USub (.int a t)) Q E s := neg_int (k _ _ (H.toks _))
theorem r_abs (H : St c Z W s) (k : ∀ t s', St c Z W s' → Q (.int (if a < 0 then -a else a) t) s') : wpAny (model PG c.w) A (call (.builtin "abs") [.int a t]) Q E s := call_abs_int fun u tk => k _ _ (H.toks _)
end

theorem r_st {Q : Unit → Shared → Prop} {L : Addr} (H : St c Z W s) (hr : Rep L (NS m) (NS (up m x v)) W W') (hL : env.locals = L) (k : ∀ s', St c Z W' s' → Q () s') (hk : env.scope.kind = .function) (hx : env.kindOf x = some .local) :
    wpAny (model PG c.w) A (storeName env x v) Q E s :=
  by subst hL; exact wpAny_storeName_local hx (ns_of (H.get hr.mem)) (fun h' hn hs => k _ (H.turnS hr hs (of_ns hn) _)) (by rw [hk]; rfl)
theorem r_stc {Q : Unit → Shared → Prop} {ca : Addr} {v₀ : Option Value} (H : St c Z W s) (hc : env.cells.lookup x = some ca) (hr : Rep ca (CELL v₀) (CELL (some v)) W W') (k : ∀ s', St c Z W' s' → Q () s') (hk : env.scope.kind = .function) (hx : env.kindOf x = some .cell) :
    wpAny (model PG c.w) A (storeName env x v) Q E s := by
  obtain ⟨o, ho, hd⟩ := H.get hr.mem
  refine wpAny_storeName_cell hk hx hc ⟨o, ho, hd⟩ fun h' hv hs => ?_
  exact k _ (H.turnS hr hs hv _)

/-! lists -/
section
variable {xs : List Value} {l : Addr} {i : Int} {t : Tok}
theorem r_list {Q : Value → Shared → Prop} {vs : List Value} (H : St c Z W s) (hz : vs.length ≤ 1000000) (k : ∀ a s', St c Z ((a, LIST vs) :: W) s' → Q (.ref a) s') : wpAny (model PG c.w) A (newList vs) Q E s :=
  wpAny_newObj_type (k _ _ (H.push ⟨0, rfl⟩ rfl _)) (by show vs.toArray.size ≤ sizeLine; rw [sizeLine_eq, List.size_toArray]; omega)
theorem r_tup {Q : Value → Shared → Prop} {vs : List Value} (H : St c Z W s) (hz : vs.length ≤ 1000000) (k : ∀ a s', St c Z ((a, TUP vs) :: W) s' → Q (.ref a) s') : wpAny (model PG c.w) A (newTuple vs) Q E s :=
  wpAny_newObj_type (k _ _ (H.push ⟨0, rfl⟩ rfl _)) (by show vs.toArray.size ≤ sizeLine; rw [sizeLine_eq, List.size_toArray]; omega)
theorem r_item {Q : Value → Shared → Prop} (hl : s.heap.IsList l xs.toArray) (h0 : 0 ≤ i) (hb : i < 2 ^ 63) (hx : xs[i.toNat]? = some v) (k : Q v s) : wpAny (model PG c.w) A (getItem (.ref l) (.int i t)) Q E s :=
  wpAny_getItem_list hl h0 hb (by simpa using hx) k
theorem r_append {Q : Value → Shared → Prop} (H : St c Z W s) (hr : Rep l (LIST xs) (LIST (xs ++ [v])) W W') (hz : xs.length ≤ 1000000) (k : ∀ s', St c Z W' s' → Q .none s') : wpAny (model PG c.w) A (call (.builtin "list.append") [.ref l, v]) Q E s :=
  wpAny_list_append_plain (list_at (H.get hr.mem)) (fun h' hl hs => k _ (H.turnS hr hs (by obtain ⟨n, e⟩ := hl; exact ⟨_, e, n, by simp⟩) _)) (by rw [sizeLine_eq, List.size_toArray]; omega)
theorem r_setitem {Q : Unit → Shared → Prop} {ys : List Value} (H : St c Z W s) (hm : (l, LIST xs) ∈ W) (hy : xs.set i.toNat v = ys) (hr : Rep l (LIST xs) (LIST ys) W W') (h0 : 0 ≤ i) (hb : i < xs.length) (hz : xs.length ≤ 1000000) (k : ∀ s', St c Z W' s' → Q () s') : wpAny (model PG c.w) A (setItem (.ref l) (.int i t) v) Q E s := by
  obtain ⟨n, ho⟩ := list_at (H.get hr.mem)
  subst hy
  exact setItem_plain ho h0 hb (by omega) (k _ (H.turnS hr (Heap.SameBut.update ..) ⟨_, Heap.get?_update_self _ ho (Obj.isFreed_of_seq rfl), mapSeq_set⟩ s.toks))
end
end
/-! statements, by their shape -/
section
variable {M : Model} {A : Around} {E : Value → Shared → Prop} {s : Shared} {env : Env} {Q : Flow → Shared → Prop} {rest : List Stmt} {pos pos' : Pos}
theorem x_nil (h : Q .next s) : wpAny M A (execs [] env) Q E s := wpAny_execs_nil h
theorem x_assign {x : Str} {value : Expr} (h : wpAny M A (eval value env) (fun v s₁ => wpAny M A (storeName env x v) (fun _ s₂ => wpAny M A (execs rest env) Q E s₂) E s₁) E s)
    (hs : swapsWith value (some (.Name x pos')) pos.line env = pure false := by rfl) : wpAny M A (execs (.Assign [.Name x pos'] value pos :: rest) env) Q E s :=
  wpAny_execs_cons (wpAny_Assign_Name h hs)
theorem x_setitem {o i value : Expr} (h : wpAny M A (eval value env) (fun v s₁ => wpAny M A (eval o env) (fun ov s₂ => wpAny M A (eval i env) (fun iv s₃ =>
      wpAny M A (setItem ov iv v) (fun _ s₄ => wpAny M A (execs rest env) Q E s₄) E s₃) E s₂) E s₁) E s)
    (hs : swapsWith value (some (.Subscript o i pos')) pos.line env = pure false := by rfl) : wpAny M A (execs (.Assign [.Subscript o i pos'] value pos :: rest) env) Q E s :=
  wpAny_execs_cons (wpAny_Assign_Subscript h hs)
theorem x_setattr {o value : Expr} {attr : Str} (h : wpAny M A (eval value env) (fun v s₁ => wpAny M A (eval o env) (fun ov s₂ => wpAny M A (setAttr ov attr v) (fun _ s₃ => wpAny M A (execs rest env) Q E s₃) E s₂) E s₁) E s)
    (hs : swapsWith value (some (.Attribute o attr pos')) pos.line env = pure false := by rfl) : wpAny M A (execs (.Assign [.Attribute o attr pos'] value pos :: rest) env) Q E s :=
  wpAny_execs_cons (plainObj_wpAny_Assign_Attribute h hs)
theorem x_tuple {elts : List Expr} {k : Nat} {value : Expr} (h : wpAny M A (eval value env) (fun v s₁ => wpAny M A (assign (.Tuple elts k pos') env v) (fun _ s₂ => wpAny M A (execs rest env) Q E s₂) E s₁) E s)
    (hs : swapsWithSole [.Tuple elts k pos'] value pos.line env = pure false := by rfl) (hw : swappedStores [.Tuple elts k pos'] value env = pure none := by rfl) :
    wpAny M A (execs (.Assign [.Tuple elts k pos'] value pos :: rest) env) Q E s := wpAny_execs_cons (Assign_Tuple h hs hw)
theorem x_expr {e : Expr} (h : wpAny M A (eval e env) (fun v s' => match v with | .ref _ => False | _ => wpAny M A (execs rest env) Q E s') E s)
    (hi : interactive env = false := by rfl) (hs : swapsWith e none pos.line env = pure false := by rfl) : wpAny M A (execs (.Expr e pos :: rest) env) Q E s :=
  wpAny_execs_cons (wpAny_Expr h hi hs)
theorem x_ret {e : Expr} (h : wpAny M A (eval e env) (fun v s' => Q (.ret v) s') E s) : wpAny M A (execs (.Return (some e) pos :: rest) env) Q E s :=
  wpAny_execs_cons (wpAny_Return_some h)
theorem x_cont (h : Q .cont s) : wpAny M A (execs (.Continue pos :: rest) env) Q E s := wpAny_execs_cons (wpAny_Continue h)

/-- what a block leads to, and the rest behind it -/
def Then (M : Model) (A : Around) (env : Env) (rest : List Stmt) (Q : Flow → Shared → Prop) (E : Value → Shared → Prop) : Flow → Shared → Prop := fun f s' => match f with
  | .next => wpAny M A (execs rest env) Q E s'
  | f => Q f s'
theorem then_next (h : wpAny M A (execs rest env) Q E s) : Then M A env rest Q E .next s := h
theorem then_cont (h : Q .cont s) : Then M A env rest Q E .cont s := h
theorem then_ret {v : Value} (h : Q (.ret v) s) : Then M A env rest Q E (.ret v) s := h
theorem x_if {test : Expr} {body orelse : List Stmt} (h : wpAny M A (isTrue test env (eval test env)) (fun b s₂ => if b = true then wpAny M A (execs body env) (Then M A env rest Q E) E s₂ else wpAny M A (execs orelse env) (Then M A env rest Q E) E s₂) E s) :
    wpAny M A (execs (.If test body orelse pos :: rest) env) Q E s :=
  wpAny_execs_cons (wpAny_If (wpAny_mono h (fun b s₂ h₂ => by
    cases b <;> exact wpAny_mono h₂ (fun f s₃ h₃ => by cases f <;> exact h₃) fun _ _ e => e) fun _ _ e => e))
theorem if_dec {p : Prop} [Decidable p] {X Y : Prop} (h1 : p → X) (h2 : ¬ p → Y) : if decide p = true then X else Y := by
  by_cases h : p
  · rw [if_pos (decide_eq_true h)]; exact h1 h
  · rw [if_neg (by simpa using h)]; exact h2 h
theorem if_bool {b : Bool} {X Y : Prop} (h1 : b = true → X) (h2 : b = false → Y) : if b = true then X else Y := by cases b <;> simp_all
theorem if_not {b : Bool} {X Y : Prop} (h : if b = true then Y else X) : if (!b) = true then X else Y := by cases b <;> simp_all

theorem q_sub {value slice : Expr} {QV : Value → Shared → Prop}
    (h : wpAny M A (eval value env) (fun o s₁ => wpAny M A (eval slice env) (fun i s₂ => wpAny M A (subscriptTail value slice o i) QV E s₂) E s₁) E s) : wpAny M A (eval (.Subscript value slice pos) env) QV E s := Subscript_ h
end

/-- a def with no cells is entered -/
theorem enter {c : Fix} {Z : List (Addr × Obj)} {W : List (Addr × (Obj → Prop))} {s : Shared} {A : Around} {Q E : Value → Shared → Prop} {d : Nat}
    {name qual : Str} {params : Arguments} {body : List Stmt} {scope : Scope} {dV kV doc pm cdv ct oc : Value} {an od : Option Addr} {osl : Array (Option Value)} {f : Addr} {args : Args} {binds : List (Str × Value)}
    (H : St c Z W s) (hA : Am A (d + 1))
    (ho : (Kf c.w.params).lookup f = some ⟨oc, od, .func (fnX name qual params body scope [] dV kV doc pm an cdv ct), osl⟩) (hcd : codeIn (Kf c.w.params) cdv qual = true)
    (hbind : BindsTo s (fnX name qual params body scope [] dV kV doc pm an cdv ct) args binds) (hloc : ∀ y ∈ binds, scope.names.lookup y.1 = some .local)
    (hcell : ∀ x ∈ scope.names, x.2 ≠ .cell) (hco : scope.isCoroutine = false) (hgen : scope.isGenerator = false) (hk : scope.kind = .function)
    (h : ∀ L s₁, St c Z ((L, NS (fun y => binds.reverse.lookup y)) :: W) s₁ → wpAny (model PG c.w) (A.deeper (envX qual scope L f cdv [])) (execs body (envX qual scope L f cdv []))
      (fun fl s' => Q (match fl with | .ret v => v | _ => .none) s') NoE s₁) :
    codeAny (model PG c.w) A (.call (.ref f) args) (fun r s' => match r with | .ok (.ret v) => Q v s' | .ok _ => False | .error e => E e s') s := by
  refine codeAny_call_def (fd := fnX name qual params body scope [] dV kV doc pm an cdv ct) (body := body) (binds := binds) (by have := hA.dep; show _ < 1000; omega) (H.KIn _ _ ho) rfl H.noLimit (codeRec_of H.KIn hcd) rfl hbind hcell hloc (fun h₁ hns hk₁ => ?_) hco hgen hk
  obtain ⟨o, ho', hp⟩ := of_ns hns
  exact wpAny_mono (h s.heap.objs.size _ (H.new hk₁ ho' hp _)) (fun fl s' hl => hl) fun _ _ y => y.elim

def cellW (cm : Str → Option Value) (cs : List (Str × Addr)) : List (Addr × (Obj → Prop)) := cs.map fun p => (p.2, CELL (cm p.1))

theorem nodup_names {names : List (Str × NameKind)} (n : Nat) (h : ((cellsFrom 0 names []).map (·.1)).Nodup) : ((cellsFrom n names []).map (·.1)).Nodup :=
  cellsFrom_names names 0 n [] [] rfl ▸ h

/-- a def with cells is entered -/
theorem enterC {c : Fix} {Z : List (Addr × Obj)} {W : List (Addr × (Obj → Prop))} {s : Shared} {A : Around} {Q E : Value → Shared → Prop} {d : Nat}
    {name qual : Str} {params : Arguments} {body : List Stmt} {scope : Scope} {dV kV doc pm cdv ct oc : Value} {an od : Option Addr} {osl : Array (Option Value)} {f : Addr} {args : Args} {binds : List (Str × Value)}
    (H : St c Z W s) (hA : Am A (d + 1))
    (ho : (Kf c.w.params).lookup f = some ⟨oc, od, .func (fnX name qual params body scope [] dV kV doc pm an cdv ct), osl⟩) (hcd : codeIn (Kf c.w.params) cdv qual = true)
    (hbind : BindsTo s (fnX name qual params body scope [] dV kV doc pm an cdv ct) args binds)
    (hkind : (binds.all fun y => scope.names.lookup y.1 == some .local || scope.names.lookup y.1 == some .cell) = true)
    (hnd : ((cellsFrom 0 scope.names []).map (·.1)).Nodup) (hco : scope.isCoroutine = false) (hgen : scope.isGenerator = false) (hk : scope.kind = .function)
    (h : ∀ L s₁, St c Z ((L, NS (bindL (envOfC qual scope L f cdv).kindOf binds fun _ => none)) :: (cellW (bindC (envOfC qual scope L f cdv).kindOf binds fun _ => none) (cellsFrom (L + 1) scope.names []) ++ W)) s₁ →
      wpAny (model PG c.w) (A.deeper (envOfC qual scope L f cdv)) (execs body (envOfC qual scope L f cdv))
      (fun fl s' => Q (match fl with | .ret v => v | _ => .none) s') NoE s₁) :
    codeAny (model PG c.w) A (.call (.ref f) args) (fun r s' => match r with | .ok (.ret v) => Q v s' | .ok _ => False | .error e => E e s') s := by
  refine codeAny_call_function (by have := hA.dep; show _ < 1000; omega) (H.KIn _ _ ho) rfl hco hgen rfl (codeRec_of H.KIn hcd) (hbind _ _ _ _ ?_)
  refine wpAny_newFunctionEnv_cells hk (kindsX hkind _) fun env' he s' x => ?_
  subst he
  refine ⟨H.noLimit.keeps x.toInCall.keep, codeAny_func ?_⟩
  obtain ⟨h₁, tk, rfl, hk₁⟩ := x.done
  refine wpAny_mono (h s.heap.objs.size _ ?_) (fun fl s' hl => hl) fun _ _ y => y.elim
  obtain ⟨q1, q2, q3⟩ := H.size_off
  have hfresh : ∀ b, s.heap.objs.size ≤ b → s.heap.get? b = none := fun b hb => Heap.get?_none_of_le hb
  have hcl : ∀ p ∈ cellsFrom (s.heap.objs.size + 1) scope.names [], h₁.IsCell p.2 (bindC (envOfC qual scope s.heap.objs.size f cdv).kindOf binds (fun _ => none) p.1) ∧ s.heap.objs.size < p.2 := fun p hp =>
    ⟨x.cell p.1 p.2 (lookup_of_mem_nodup (nodup_names _ hnd) hp), x.above p.1 p.2 hp⟩
  refine ⟨H.ok, fun b o e => hk₁ _ _ (H.keep b o e), fun p hp => hk₁ _ _ (H.frozen p hp), fun p hp => ?_, fun p hp => ?_, ?_, H.gens, H.drawn, H.os, fun p hp => ?_, H.big.2⟩
  · rcases List.mem_cons.mp hp with rfl | hp
    · exact of_ns x.toInCall.ns
    · rcases List.mem_append.mp hp with hp | hp
      · obtain ⟨q, hq, rfl⟩ := List.mem_map.mp hp
        exact (hcl q hq).1
      · obtain ⟨o, ho', hp'⟩ := H.live p hp; exact ⟨o, hk₁ _ _ ho', hp'⟩
  · have off : ∀ b, s.heap.objs.size ≤ b → c.B.get? b = none ∧ ∀ q ∈ Z, q.1 ≠ b := fun b hb => by
      refine ⟨?_, fun q hq e => ?_⟩
      · cases e : c.B.get? b with
        | none => rfl
        | some o => have := H.keep _ _ e; rw [hfresh b hb] at this; cases this
      · have := H.frozen q hq; rw [e, hfresh b hb] at this; cases this
    rcases List.mem_cons.mp hp with rfl | hp
    · exact off _ (Nat.le_refl _)
    · rcases List.mem_append.mp hp with hp | hp
      · obtain ⟨q, hq, rfl⟩ := List.mem_map.mp hp
        exact off _ (Nat.le_of_lt (hcl q hq).2)
      · exact H.off p hp
  · rw [List.map_cons, List.nodup_cons]
    have live_lt : ∀ p ∈ W, p.1 < s.heap.objs.size := fun p hp => let ⟨o, ho', _⟩ := H.live p hp; Heap.lt_size ho'
    refine ⟨fun hm => ?_, ?_⟩
    · obtain ⟨p, hp, e⟩ := List.mem_map.mp hm
      rcases List.mem_append.mp hp with hp | hp
      · obtain ⟨q, hq, rfl⟩ := List.mem_map.mp hp
        exact absurd (hcl q hq).2 (by rw [show q.2 = s.heap.objs.size from e]; exact Nat.lt_irrefl _)
      · exact q3 p hp e
    · rw [List.map_append, List.nodup_append]
      refine ⟨?_, H.nodup, fun a ha b hb e => ?_⟩
      · have := x.apart
        unfold cellW
        rw [List.map_map]
        exact List.pairwise_map.mpr (this.imp fun h => h)
      · obtain ⟨p, hp, rfl⟩ := List.mem_map.mp ha
        obtain ⟨q, hq, rfl⟩ := List.mem_map.mp hp
        obtain ⟨r, hr, rfl⟩ := List.mem_map.mp hb
        exact absurd (live_lt r hr) (by rw [← e]; exact Nat.not_lt.mpr (Nat.le_of_lt (hcl q hq).2))
  · obtain ⟨o2, ho2⟩ := H.ok.two
    have h2 := Heap.lt_size (H.keep _ _ ho2)
    rcases List.mem_cons.mp hp with rfl | hp
    · exact H.size_big
    · rcases List.mem_append.mp hp with hp | hp
      · obtain ⟨q, hq, rfl⟩ := List.mem_map.mp hp
        have := (hcl q hq).2
        show q.2 ≠ 1
        exact fun e => by rw [e] at this; exact absurd (Nat.lt_trans h2 this) (by decide)
      · exact H.big.1 p hp

/-- a frame's names, written out from behind -/
def ms : List (Str × Value) → Str → Option Value
  | [] => fun _ => none
  | (x, v) :: r => up (ms r) x v
theorem ms_lookup : ∀ l : List (Str × Value), (fun y => l.lookup y) = ms l
  | [] => rfl
  | (x, v) :: r => by
    funext y
    show List.lookup y ((x, v) :: r) = up (ms r) x v y
    rw [← ms_lookup r, List.lookup_cons]
    unfold up
    by_cases h : y = x
    · subst h; simp
    · rw [if_neg h]
      have : (y == x) = false := by simpa using h
      rw [this]
/-- a live object turns and is forgotten -/
theorem St.lose {c : Fix} {Z : List (Addr × Obj)} {W : List (Addr × (Obj → Prop))} {s : Shared} {a : Addr} {P : Obj → Prop} (H : St c Z ((a, P) :: W) s) {h' : Heap} (hk : ∀ b o, b ≠ a → s.heap.get? b = some o → h'.get? b = some o) (t : Nat) :
    St c Z W { s with heap := h', toks := t } := by
  have hnd := H.nodup
  rw [List.map_cons, List.nodup_cons] at hnd
  have o1 := H.off _ (List.mem_cons_self ..)
  exact ⟨H.ok, fun b o e => hk b o (fun q => by subst q; rw [o1.1] at e; cases e) (H.keep b o e), fun p hp => hk _ _ (o1.2 p hp) (H.frozen p hp),
      fun p hp => let ⟨o, ho, q⟩ := H.live p (.tail _ hp); ⟨o, hk _ _ (fun e => hnd.1 (List.mem_map.mpr ⟨p, hp, e⟩)) ho, q⟩, fun p hp => H.off p (.tail _ hp), hnd.2, H.gens, H.drawn, H.os, fun p hp => H.big.1 p (.tail _ hp), H.big.2⟩
theorem St.loseS {c : Fix} {Z : List (Addr × Obj)} {W : List (Addr × (Obj → Prop))} {s : Shared} {a : Addr} {P : Obj → Prop} (H : St c Z ((a, P) :: W) s) {h' : Heap} (hs : Heap.SameBut a s.heap h') (t : Nat) :
    St c Z W { s with heap := h', toks := t } := H.lose (fun b o n e => (hs.2 b n).trans e) t

/-- an iterator: n items, its states, what it reads -/
structure Itr (c : Fix) (A : Around) (it : Addr) (n : Nat) (S : Nat → Obj → Prop) (src : Heap → Prop) (V : Nat → Value → Prop) : Prop where
  item : ∀ i (s : Shared) (Q : Option Value → Shared → Prop) (E : Value → Shared → Prop), i < n → (∃ o, s.heap.get? it = some o ∧ S i o) → src s.heap →
    (∀ v h' t, V i v → (∃ o, h'.get? it = some o ∧ S (i + 1) o) → (∀ b o, b ≠ it → s.heap.get? b = some o → h'.get? b = some o) → Q (some v) { s with heap := h', toks := t }) →
    wpAny (model PG c.w) A (pyNext (.ref it)) Q E s
  done : ∀ (s : Shared) (Q : Option Value → Shared → Prop) (E : Value → Shared → Prop), (∃ o, s.heap.get? it = some o ∧ S n o) → src s.heap →
    (∀ h' t, (∀ b o, b ≠ it → s.heap.get? b = some o → h'.get? b = some o) → Q none { s with heap := h', toks := t }) → wpAny (model PG c.w) A (pyNext (.ref it)) Q E s
  owned : ∀ i (elts : List Expr) (k : Nat) (pos : Pos) (T : Addr) (s : Shared) (Q : Unit → Shared → Prop) (E : Value → Shared → Prop), (∃ o, s.heap.get? it = some o ∧ S i o) → Q () s →
    wpAny (model PG c.w) A (letOwnedTupleGo (.Tuple elts k pos) (.ref it) (.ref T)) Q E s
  self : ∀ i (s : Shared) (Q : Value → Shared → Prop) (E : Value → Shared → Prop), (∃ o, s.heap.get? it = some o ∧ S i o) → Q (.ref it) s → wpAny (model PG c.w) A (pyIter (.ref it)) Q E s

def LITER (l : Addr) (i : Nat) (o : Obj) : Prop := o.cls = .type "list_iterator" ∧ o.data = .fields #[.ref l, .int i 0]
def TITER (l : Addr) (i : Nat) (o : Obj) : Prop := o.cls = .type "tuple_iterator" ∧ o.data = .fields #[.ref l, .int i 0]
def RITER (a n : Int) (i : Nat) (o : Obj) : Prop := o = { cls := .type "range_iterator", data := .fields #[rawInt (a + i), rawInt (n - i), rawInt 1] }
def KITER (d : Addr) (n ep : Nat) (i : Nat) (o : Obj) : Prop := o.cls = .type "dict_keyiterator" ∧ o.data = .fields #[.ref d, .int i 0, .int n 0, .int ep 0]

section
variable {c : Fix} {A : Around} {it l : Addr} {xs : List Value}
theorem itr_list (hh : A.handled = none) : Itr c A it xs.length (LITER l) (fun h => h.IsList l xs.toArray) (fun i v => xs[i]? = some v) where
  item := fun i s Q E hi ⟨o, ho, hc, hd⟩ hl k => by
    refine wpAny_pyNext_list_item ⟨o, ho, hc, hd⟩ hl (x := xs[i]) (by simp [hi]) fun h' hit hs => ?_
    exact k _ h' s.toks (by simp [hi]) hit fun b o n e => (hs.2 b n).trans e
  done := fun s Q E ⟨o, ho, hc, hd⟩ hl k => wpAny_pyNext_list_end hh ⟨o, ho, hc, hd⟩ hl (by simp) fun h' he => k h' s.toks fun b o n e => he b o n e
  owned := fun i elts k pos T s Q E ⟨o, ho, hc, hd⟩ q => wpAny_letOwnedTupleGo_listiter ⟨o, ho, hc, hd⟩ q
  self := fun i s Q E ⟨o, ho, hc, hd⟩ q => wpAny_pyIter_listiter ⟨o, ho, hc, hd⟩ q

theorem letOwned_tupiter {elts : List Expr} {k : Nat} {pos : Pos} {I t T : Addr} {i : Nat} {s : Shared} {E : Value → Shared → Prop} {Q : Unit → Shared → Prop} (hit : s.heap.IsTupleIter I t i) (hQ : Q () s) :
    wpAny (model PG c.w) A (letOwnedTupleGo (.Tuple elts k pos) (.ref I) (.ref T)) Q E s := by
  obtain ⟨o, ho, hc, hd⟩ := hit
  unfold letOwnedTupleGo
  refine wpAny_bind (wpAny_load ho ?_)
  rw [hc, hd]
  show wpAny _ A (if (["enumerate", "zip", "dict_itemiterator", "dict_reverseitemiterator", "odict_iterator", "itertools.zip_longest", "itertools.pairwise"].contains "tuple_iterator" && _) = true then _ else _) Q E s
  rw [if_neg (by rw [show (["enumerate", "zip", "dict_itemiterator", "dict_reverseitemiterator", "odict_iterator", "itertools.zip_longest", "itertools.pairwise"].contains "tuple_iterator") = false by decide]; simp)]
  exact wpAny_pure hQ

theorem itr_tup (hh : A.handled = none) : Itr c A it xs.length (TITER l) (fun h => IsTup h l xs.toArray) (fun i v => xs[i]? = some v) where
  item := fun i s Q E hi ⟨o, ho, hc, hd⟩ hl k => by
    refine wpAny_pyNext_tuple_item ⟨o, ho, hc, hd⟩ hl (x := xs[i]) (by simp [hi]) fun h' hit hs => ?_
    exact k _ h' s.toks (by simp [hi]) hit fun b o n e => (hs.2 b n).trans e
  done := fun s Q E ⟨o, ho, hc, hd⟩ hl k => wpAny_pyNext_tuple_end hh ⟨o, ho, hc, hd⟩ hl (by simp) fun h' he => k h' s.toks fun b o n e => he b o n e
  owned := fun i elts k pos T s Q E ⟨o, ho, hc, hd⟩ q => letOwned_tupiter ⟨o, ho, hc, hd⟩ q
  self := fun i s Q E ⟨o, ho, hc, hd⟩ q => wpAny_pyIter_tupleiter ⟨o, ho, hc, hd⟩ q

theorem itr_range (hh : A.handled = none) {a : Int} {n : Nat} : Itr c A it n (RITER a n) (fun _ => True) (fun i v => ∃ t, v = .int (a + i) t) where
  item := fun i s Q E hi ⟨o, ho, hr⟩ hl k => by
    unfold RITER at hr; subst hr
    refine wpAny_pyNext_range_item ho (by omega) fun h' hit hs => ?_
    refine k _ h' _ ⟨_, rfl⟩ ⟨_, hit, ?_⟩ fun b o n e => (hs.2 b n).trans e
    unfold RITER
    rw [show a + (i : Int) + 1 = a + ((i + 1 : Nat) : Int) by omega, show (n : Int) - (i : Int) - 1 = (n : Int) - ((i + 1 : Nat) : Int) by omega]
  done := fun s Q E ⟨o, ho, hr⟩ hl k => by
    unfold RITER at hr; subst hr
    exact wpAny_pyNext_range_end hh ho (by omega) fun h' he => k h' s.toks fun b o n e => he b o n e
  owned := fun i elts k pos T s Q E ⟨o, ho, hr⟩ q => by
    unfold RITER at hr; subst hr
    unfold letOwnedTupleGo
    refine wpAny_bind (wpAny_load ho ?_)
    show wpAny _ A (if (["enumerate", "zip", "dict_itemiterator", "dict_reverseitemiterator", "odict_iterator", "itertools.zip_longest", "itertools.pairwise"].contains "range_iterator" && _) = true then _ else _) Q E s
    rw [if_neg (by rw [show (["enumerate", "zip", "dict_itemiterator", "dict_reverseitemiterator", "odict_iterator", "itertools.zip_longest", "itertools.pairwise"].contains "range_iterator") = false by decide]; simp)]
    exact wpAny_pure q
  self := fun i s Q E ⟨o, ho, hr⟩ q => by
    unfold RITER at hr; subst hr
    exact wpAny_pyIter_rangeiter ho q

theorem itr_keys (hh : A.handled = none) {d : Addr} {kvs : List (Int × Value)} {ep : Nat} : Itr c A it kvs.length (KITER d kvs.length ep) (fun h => h.DictAt (intKind PG c.w) d kvs ep) (fun i v => ∃ k x t, kvs[i]? = some (k, x) ∧ v = .int k t) where
  item := fun i s Q E hi ⟨o, ho, hc, hd⟩ hl k => by
    refine wpAny_pyNext_dict_item (k := kvs[i].1) (v := kvs[i].2) ⟨o, ho, hc, hd⟩ hl (by simp [hi]) fun key h' hk hit hs => ?_
    obtain ⟨t, rfl⟩ := Value.isInt_shape hk
    exact k _ h' s.toks ⟨kvs[i].1, kvs[i].2, t, by simp [hi], rfl⟩ hit fun b o n e => (hs.2 b n).trans e
  done := fun s Q E ⟨o, ho, hc, hd⟩ hl k => wpAny_pyNext_dict_end hh ⟨o, ho, hc, hd⟩ hl (by simp) fun h' he => k h' s.toks fun b o n e => he b o n e
  owned := fun i elts k pos T s Q E ⟨o, ho, hc, hd⟩ q => by
    unfold letOwnedTupleGo
    refine wpAny_bind (wpAny_load ho ?_)
    rw [hc, hd]
    show wpAny _ A (if (["enumerate", "zip", "dict_itemiterator", "dict_reverseitemiterator", "odict_iterator", "itertools.zip_longest", "itertools.pairwise"].contains "dict_keyiterator" && _) = true then _ else _) Q E s
    rw [if_neg (by rw [show (["enumerate", "zip", "dict_itemiterator", "dict_reverseitemiterator", "odict_iterator", "itertools.zip_longest", "itertools.pairwise"].contains "dict_keyiterator") = false by decide]; simp)]
    exact wpAny_pure q
  self := fun i s Q E ⟨o, ho, hc, hd⟩ q => wpAny_pyIter_keyiter ⟨o, ho, hc, hd⟩ q
end

/-! for -/
def ForEnd (M : Model) (A : Around) (env : Env) (rest : List Stmt) (Q : Flow → Shared → Prop) (E : Value → Shared → Prop) (r : Result) (s' : Shared) : Prop := match r with
  | .ok .next => wpAny M A (execs rest env) Q E s'
  | .ok f => Q f s'
  | .error _ => False
def ForGo (M : Model) (A : Around) (env : Env) (target : Expr) (body rest : List Stmt) (Q : Flow → Shared → Prop) (E : Value → Shared → Prop) (x : Value) (s₁ : Shared) : Prop :=
  wpAny M A (pyIter x) (fun it s₂ => codeAny M A (.forLoop target it body [] env) (ForEnd M A env rest Q E) s₂) E s₁
def Turned (c : Fix) (A : Around) (env : Env) (rest : List Stmt) (Q : Flow → Shared → Prop) (E : Value → Shared → Prop) (J : List (Addr × Obj) → List (Addr × (Obj → Prop)) → Prop) (f : Flow) (s : Shared) : Prop := match f with
  | .next | .cont => ∃ Z W, St c Z W s ∧ J Z W
  | .brk => wpAny (model PG c.w) A (execs rest env) Q E s
  | .ret v => Q (.ret v) s
section
variable {M : Model} {A : Around} {E : Value → Shared → Prop} {s : Shared} {env : Env} {Q : Flow → Shared → Prop} {rest : List Stmt} {pos pos' : Pos}
theorem x_for {target iter : Expr} {body : List Stmt} (h : wpAny M A (eval iter env) (fun x s₁ => ForGo M A env target body rest Q E x s₁) E s) (hs : ∀ x, foldedSetIterable iter env x = pure x := by intro _; rfl) :
    wpAny M A (execs (.For target iter body [] pos :: rest) env) Q E s := by
  refine wpAny_execs_cons (wpAny_For (wpAny_mono h (fun x s₁ h₁ => wpAny_mono h₁ (fun it s₂ h₂ => codeAny_mono h₂ fun r s' hr => ?_) fun _ _ e => e) fun _ _ e => e) hs)
  cases r with
  | error e => exact hr.elim
  | ok f => cases f <;> exact hr

variable {c : Fix} {Z : List (Addr × Obj)} {W : List (Addr × (Obj → Prop))}
theorem for_it {target : Expr} {body : List Stmt} {it : Addr} {n : Nat} {S : Nat → Obj → Prop} {src : Heap → Prop} {V : Nat → Value → Prop} (I : Itr c A it n S src V)
    (Inv : Nat → List (Addr × Obj) → List (Addr × (Obj → Prop)) → Prop) (H : St c Z ((it, S 0) :: W) s) (h0 : Inv 0 Z W)
    (hsrc : ∀ i Z' W' s', i ≤ n → Inv i Z' W' → St c Z' ((it, S i) :: W') s' → src s'.heap)
    (how : (∀ v, letOwnedTupleGo target (.ref it) v = pure ()) ∨ ((∃ elts k pos, target = .Tuple elts k pos) ∧ ∀ i v, V i v → ∃ T, v = .ref T))
    (turn : ∀ i v Z' W' s', i < n → V i v → Inv i Z' W' → St c Z' ((it, S (i + 1)) :: W') s' →
      wpAny (model PG c.w) A (assign target env v) (fun _ s₂ => wpAny (model PG c.w) A (execs body env) (Turned c A env rest Q E (fun Z'' W'' => ∃ W₁, W'' = (it, S (i + 1)) :: W₁ ∧ Inv (i + 1) Z'' W₁)) NoE s₂) NoE s')
    (done : ∀ Z' W' s', Inv n Z' W' → St c Z' W' s' → wpAny (model PG c.w) A (execs rest env) Q E s') :
    codeAny (model PG c.w) A (.forLoop target (.ref it) body [] env) (ForEnd (model PG c.w) A env rest Q E) s := by
  refine codeAny_forLoop_any (fun k s' => ∃ i Z' W', k = n + 1 - i ∧ i ≤ n ∧ St c Z' ((it, S i) :: W') s' ∧ Inv i Z' W') ?_ (n + 1) ⟨0, Z, W, rfl, Nat.zero_le _, H, h0⟩
  rintro k s' ⟨i, Z', W', rfl, hi, H', hJ⟩
  have hit := H'.get (List.mem_cons_self ..)
  have hs := hsrc i Z' W' s' hi hJ H'
  rcases Nat.lt_or_ge i n with hlt | hge
  · refine I.item i _ _ _ hlt hit hs fun v h' t hv hit' hk => ?_
    have H₁ : St c Z' ((it, S (i + 1)) :: W') { s' with heap := h', toks := t } := H'.turn Rep.head hk hit' t
    have go : wpAny (model PG c.w) A (assign target env v) (fun _ s₂ => wpAny (model PG c.w) A (execs body env) (fun f s₃ => match f with
        | .next | .cont => ∃ m, m < n + 1 - i ∧ ∃ i' Z' W', m = n + 1 - i' ∧ i' ≤ n ∧ St c Z' ((it, S i') :: W') s₃ ∧ Inv i' Z' W'
        | .brk => ForEnd (model PG c.w) A env rest Q E (.ok .next) s₃
        | .ret v => ForEnd (model PG c.w) A env rest Q E (.ok (.ret v)) s₃) (notedBy (model PG c.w) A env fun e s' => ForEnd (model PG c.w) A env rest Q E (.error e) s') s₂)
        (notedBy (model PG c.w) A env fun e s' => ForEnd (model PG c.w) A env rest Q E (.error e) s') { s' with heap := h', toks := t } := by
      refine wpAny_mono (turn i v Z' W' _ hlt hv hJ H₁) (fun _ s₂ h₂ => wpAny_mono h₂ (fun f s₃ h₃ => ?_) fun _ _ e => e.elim) fun _ _ e => e.elim
      cases f with
      | next => obtain ⟨Z₂, W₂, H₂, W₁, rfl, hJ₂⟩ := h₃; exact ⟨n + 1 - (i + 1), by omega, i + 1, Z₂, W₁, rfl, hlt, H₂, hJ₂⟩
      | cont => obtain ⟨Z₂, W₂, H₂, W₁, rfl, hJ₂⟩ := h₃; exact ⟨n + 1 - (i + 1), by omega, i + 1, Z₂, W₁, rfl, hlt, H₂, hJ₂⟩
      | brk => exact h₃
      | ret v => exact h₃
    rcases how with e | ⟨⟨elts, k, pos, rfl⟩, hT⟩
    · dsimp only
      rw [e v]
      exact wpAny_pure go
    · obtain ⟨T, rfl⟩ := hT i v hv
      exact I.owned (i + 1) elts k pos T _ _ _ hit' go
  · have : i = n := by omega
    subst this
    refine I.done _ _ _ hit hs fun h' t hk => ?_
    have H₁ : St c Z' W' { s' with heap := h', toks := t } := H'.lose hk t
    exact wpAny_execs_nil (done Z' W' _ hJ H₁)

/-- while, by an invariant with a measure -/
theorem x_while {test : Expr} {body : List Stmt} (Inv : Nat → List (Addr × Obj) → List (Addr × (Obj → Prop)) → Prop) (n : Nat) (H : St c Z W s) (h0 : Inv n Z W)
    (turn : ∀ n Z' W' s', let QT := Turned c A env rest Q E (fun Z'' W'' => ∃ m, m < n ∧ Inv m Z'' W'')
        Inv n Z' W' → St c Z' W' s' → wpAny (model PG c.w) A (isTrue test env (eval test env)) (fun b s₂ =>
        if b = true then wpAny (model PG c.w) A (execs body env) QT NoE s₂
        else wpAny (model PG c.w) A (execs rest env) Q E s₂) NoE s') :
    wpAny (model PG c.w) A (execs (.While test body [] pos :: rest) env) Q E s := by
  refine wpAny_execs_cons (wpAny_While (codeAny_mono (R := ForEnd (model PG c.w) A env rest Q E) ?_ fun r s' hr => ?_))
  · refine codeAny_whileLoop (fun k s' => ∃ Z' W', St c Z' W' s' ∧ Inv k Z' W') ?_ n ⟨Z, W, H, h0⟩
    rintro k s' ⟨Z', W', H', hJ⟩
    refine wpAny_mono (turn k Z' W' s' hJ H') (fun b s₂ h₂ => ?_) fun _ _ e => e.elim
    cases b with
    | false =>
      simp only [Bool.false_eq_true, if_false] at h₂ ⊢
      exact wpAny_execs_nil h₂
    | true =>
      simp only [if_true] at h₂ ⊢
      refine wpAny_mono h₂ (fun f s₃ h₃ => ?_) fun _ _ e => e.elim
      cases f with
      | next => obtain ⟨Z₂, W₂, H₂, m, hm, hJ₂⟩ := h₃; exact ⟨m, hm, Z₂, W₂, H₂, hJ₂⟩
      | cont => obtain ⟨Z₂, W₂, H₂, m, hm, hJ₂⟩ := h₃; exact ⟨m, hm, Z₂, W₂, H₂, hJ₂⟩
      | brk => exact h₃
      | ret v => exact h₃
  · cases r with
    | error e => exact hr.elim
    | ok f => cases f <;> exact hr
end
theorem notedF {M : Model} {A : Around} {env : Env} {P : Value → Shared → Prop} {E : Value → Shared → Prop} : ∀ e s, NoE e s → notedBy M A env E e s := fun _ _ h => h.elim

section
variable {c : Fix} {A : Around} {env : Env} {Z : List (Addr × Obj)} {W : List (Addr × (Obj → Prop))} {s : Shared}

/-- one turn of a comprehension, behind the binding -/
def CompElt (c : Fix) (A : Around) (elt : Expr) (ifs : List Expr) (C : Addr) (D it : Addr) (cenv : Env) (T : Obj → Prop) (ys : List Value) (J : List Value → List (Addr × Obj) → List (Addr × (Obj → Prop)) → Prop) (s : Shared) : Prop :=
  wpAny (model PG c.w) A (forIn ifs true fun cd r => if r = true then do let ok ← isTrue cd cenv (eval cd cenv); pure (ForInStep.yield ok) else pure (ForInStep.yield r)) (fun ok s₃ =>
    if ok = true then wpAny (model PG c.w) A (eval elt cenv) (fun y s₄ => ∃ Z W m, St c Z ((C, NS m) :: (D, LIST ys) :: (it, T) :: W) s₄ ∧ J (ys ++ [y]) Z W) NoE s₃
    else ∃ Z W m, St c Z ((C, NS m) :: (D, LIST ys) :: (it, T) :: W) s₃ ∧ J ys Z W) NoE s
theorem compElt_nil {elt : Expr} {C D it : Addr} {cenv : Env} {T : Obj → Prop} {ys : List Value} {J : List Value → List (Addr × Obj) → List (Addr × (Obj → Prop)) → Prop}
    (h : wpAny (model PG c.w) A (eval elt cenv) (fun y s₄ => ∃ Z W m, St c Z ((C, NS m) :: (D, LIST ys) :: (it, T) :: W) s₄ ∧ J (ys ++ [y]) Z W) NoE s) : CompElt c A elt [] C D it cenv T ys J s :=
  wpAny_tests_nil (by rw [if_pos rfl]; exact h)
theorem compElt_one {elt cd : Expr} {C D it : Addr} {cenv : Env} {T : Obj → Prop} {ys : List Value} {J : List Value → List (Addr × Obj) → List (Addr × (Obj → Prop)) → Prop}
    (h : wpAny (model PG c.w) A (isTrue cd cenv (eval cd cenv)) (fun ok s₃ => if ok = true then wpAny (model PG c.w) A (eval elt cenv) (fun y s₄ => ∃ Z W m, St c Z ((C, NS m) :: (D, LIST ys) :: (it, T) :: W) s₄ ∧ J (ys ++ [y]) Z W) NoE s₃
    else ∃ Z W m, St c Z ((C, NS m) :: (D, LIST ys) :: (it, T) :: W) s₃ ∧ J ys Z W) NoE s) : CompElt c A elt [cd] C D it cenv T ys J s :=
  wpAny_tests_one h

theorem comp_loop {elt target iter : Expr} {ifs : List Expr} {scope : Scope} {pos : Pos} {it : Addr} {n : Nat} {S : Nat → Obj → Prop} {src : Heap → Prop} {V : Nat → Value → Prop} (I : Itr c A it n S src V)
    (Inv : Nat → List Value → List (Addr × Obj) → List (Addr × (Obj → Prop)) → Prop) {C D : Addr} {cenv : Env} {m : Str → Option Value} {R : Result → Shared → Prop}
    (H : St c Z ((C, NS m) :: (D, LIST []) :: (it, S 0) :: W) s) (h0 : Inv 0 [] Z W) (hn : n ≤ 1000000)
    (hsrc : ∀ i ys Z' W' s', i ≤ n → Inv i ys Z' W' → St c Z' W' s' → src s'.heap)
    (how : (∀ v, letOwnedTupleGo target (.ref it) v = pure ()) ∨ ((∃ elts k pos, target = .Tuple elts k pos) ∧ ∀ i v, V i v → ∃ T, v = .ref T))
    (turn : ∀ i v ys m Z' W' s', i < n → ys.length ≤ i → V i v → Inv i ys Z' W' → St c Z' ((C, NS m) :: (D, LIST ys) :: (it, S (i + 1)) :: W') s' →
      wpAny (model PG c.w) A (assign target cenv v) (fun _ s₂ => CompElt c A elt ifs C D it cenv (S (i + 1)) ys (Inv (i + 1)) s₂) NoE s')
    (hR : ∀ ys m Z' W' s', Inv n ys Z' W' → St c Z' ((C, NS m) :: (D, LIST ys) :: W') s' → R (.ok .next) s') :
    codeAny (model PG c.w) A (.compLoop (.ListComp elt [⟨target, iter, ifs, 0⟩] scope pos) 0 (.ref it) (.ref D) cenv) R s := by
  refine codeAny_loop rfl (fun k s' => ∃ i ys m Z' W', k = n + 1 - i ∧ i ≤ n ∧ ys.length ≤ i ∧ St c Z' ((C, NS m) :: (D, LIST ys) :: (it, S i) :: W') s' ∧ Inv i ys Z' W') ?_ (n + 1) ⟨0, [], m, Z, W, rfl, Nat.zero_le _, Nat.le_refl _, H, h0⟩
  rintro k s' ⟨i, ys, m, Z', W', rfl, hi, hys, H', hJ⟩
  show wpAny _ A ((compTurn (.ListComp elt [⟨target, iter, ifs, 0⟩] scope pos) 0 (.ref it) (.ref D) cenv).onRaise (fun x => do noteFrame x cenv; theTreesLotGoes x)) _ _ s'
  refine wpAny_noted ?_
  rw [compTurn_list]
  have hit := H'.get (.tail _ (.tail _ (.head _)))
  have hs := hsrc i ys Z' W' s' hi hJ (H'.tail.tail.tail)
  refine wpAny_bind (wpAny_standAt (wpAny_bind ?_))
  rcases Nat.lt_or_ge i n with hlt | hge
  · refine I.item i _ _ _ hlt hit hs fun v h' t hv hit' hk => ?_
    have H₁ : St c Z' ((C, NS m) :: (D, LIST ys) :: (it, S (i + 1)) :: W') { s' with heap := h', toks := t } := H'.turn (.tail (.tail .head)) hk hit' t
    have go : wpAny (model PG c.w) A (letOwnedTupleGo target (.ref it) v) (fun _ s₁ => s₁ = { s' with heap := h', toks := t }) NoE { s' with heap := h', toks := t } := by
      rcases how with e | ⟨⟨elts, k, pos, rfl⟩, hT⟩
      · rw [e v]; exact wpAny_pure rfl
      · obtain ⟨T, rfl⟩ := hT i v hv
        exact I.owned (i + 1) elts k pos T _ _ _ hit' rfl
    refine wpAny_bind (wpAny_mono go (fun _ s₁ e => ?_) fun _ _ e => e.elim)
    subst e
    refine wpAny_bind (wpAny_mono (turn i v ys m Z' W' _ hlt hys hv hJ H₁) (fun _ s₂ h₂ => ?_) fun _ _ e => e.elim)
    refine wpAny_bind (wpAny_mono h₂ (fun ok s₃ h₃ => ?_) fun _ _ e => e.elim)
    cases ok with
    | false =>
      simp only [Bool.false_eq_true, if_false] at h₃ ⊢
      obtain ⟨Z₂, W₂, m₂, H₂, hJ₂⟩ := h₃
      exact wpAny_pure ⟨rfl, n + 1 - (i + 1), by omega, i + 1, ys, m₂, Z₂, W₂, rfl, hlt, by omega, H₂, hJ₂⟩
    | true =>
      simp only [if_true] at h₃ ⊢
      refine wpAny_bind (wpAny_bind (wpAny_mono h₃ (fun y s₄ h₄ => ?_) fun _ _ e => e.elim))
      obtain ⟨Z₂, W₂, m₂, H₂, hJ₂⟩ := h₄
      refine wpAny_bind (r_append (W' := (C, NS m₂) :: (D, LIST (ys ++ [y])) :: (it, S (i + 1)) :: W₂) H₂ (.tail .head) (by omega) fun s₅ H₃ => wpAny_pure (wpAny_pure ?_))
      exact ⟨rfl, n + 1 - (i + 1), by omega, i + 1, _, m₂, Z₂, W₂, rfl, hlt, by rw [List.length_append, List.length_singleton]; omega, H₃, hJ₂⟩
  · have : i = n := by omega
    subst this
    refine I.done _ _ _ hit hs fun h' t hk => wpAny_pure ?_
    refine hR ys m Z' W' _ hJ ?_
    exact H'.rot3.lose hk t

/-- from the iterator at hand to the list -/
theorem comp_from {elt target iter : Expr} {ifs : List Expr} {scope : Scope} {pos : Pos} {it : Addr} {n : Nat} {S : Nat → Obj → Prop} {src : Heap → Prop} {V : Nat → Value → Prop} {cl : List (Str × Addr)} {E : Value → Shared → Prop} (I : Itr c A it n S src V)
    (Inv : Nat → List Value → List (Addr × Obj) → List (Addr × (Obj → Prop)) → Prop) {RR : Value → Addr → Result → Shared → Prop}
    (H : St c Z ((it, S 0) :: W) s) (h0 : Inv 0 [] Z W) (hn : n ≤ 1000000)
    (hsrc : ∀ i ys Z' W' s', i ≤ n → Inv i ys Z' W' → St c Z' W' s' → src s'.heap)
    (how : (∀ v, letOwnedTupleGo target (.ref it) v = pure ()) ∨ ((∃ elts k pos, target = .Tuple elts k pos) ∧ ∀ i v, V i v → ∃ T, v = .ref T))
    (turn : ∀ C D i v ys m Z' W' s', i < n → ys.length ≤ i → V i v → Inv i ys Z' W' → St c Z' ((C, NS m) :: (D, LIST ys) :: (it, S (i + 1)) :: W') s' →
      wpAny (model PG c.w) A (assign target (compEnvC scope cl C env) v) (fun _ s₂ => CompElt c A elt ifs C D it (compEnvC scope cl C env) (S (i + 1)) ys (Inv (i + 1)) s₂) NoE s')
    (hR : ∀ C D ys m Z' W' s', Inv n ys Z' W' → St c Z' ((C, NS m) :: (D, LIST ys) :: W') s' → RR (.ref D) C (.ok .next) s')
    (hcell : ∀ y ∈ scope.names, y.2 ≠ .cell) (hkind : scope.kind = .function) :
    wpAny (model PG c.w) A (newList []) (fun acc s₃ => wpAny (model PG c.w) A (newFunctionEnv scope env.globals cl [] env.qual none .none (some env)) (fun cenv s₄ =>
      codeAny (model PG c.w) A (.compStart (.ListComp elt [⟨target, iter, ifs, 0⟩] scope pos) 0 (.ref it) acc { cenv with scope := relabel scope env }) (RR acc cenv.locals) s₄) E s₃) E s := by
  refine r_list H (by decide) fun D s₁ H₁ => ?_
  refine wpAny_newFunctionEnv hcell (by intro y hy; simp at hy) (fun h₁ hns₁ hsb₁ => ?_) hkind
  have H₂ : St c Z ((s₁.heap.objs.size, NS (fun x => ([] : List (Str × Value)).reverse.lookup x)) :: (D, LIST []) :: (it, S 0) :: W) { s₁ with heap := h₁, toks := s₁.toks + ([] : List (Str × Value)).length } := by
    obtain ⟨o, ho, hp⟩ := of_ns hns₁
    exact H₁.new (fun b o e => hsb₁.extBut b o (Nat.ne_of_lt (Heap.lt_size e)) (Heap.get?_push_of_some _ e)) ho hp _
  have loop : ∀ s₃ : Shared, s₃ = { s₁ with heap := h₁, toks := s₁.toks + ([] : List (Str × Value)).length } →
      codeAny (model PG c.w) A (.compLoop (.ListComp elt [⟨target, iter, ifs, 0⟩] scope pos) 0 (.ref it) (.ref D) (compEnvC scope cl s₁.heap.objs.size env)) (RR (.ref D) s₁.heap.objs.size) s₃ := by
    rintro s₃ rfl
    exact comp_loop I Inv H₂ h0 hn hsrc how (fun i v ys m Z' W' s' => turn _ _ i v ys m Z' W' s') fun ys m Z' W' s' => hR _ _ ys m Z' W' s'
  exact codeAny_compStart_list (loop _ rfl) (I.self 0 _ _ _ (H₂.get (.tail _ (.tail _ (.head _)))) (loop _ rfl))

def CompGo (c : Fix) (A : Around) (env : Env) (elt target iter : Expr) (ifs : List Expr) (scope : Scope) (pos : Pos) (cl : List (Str × Addr)) (E : Value → Shared → Prop) (RR : Value → Addr → Result → Shared → Prop) (x : Value) (s₁ : Shared) : Prop :=
  wpAny (model PG c.w) A (pyIter x) (fun it s₂ => wpAny (model PG c.w) A (newList []) (fun acc s₃ => wpAny (model PG c.w) A (newFunctionEnv scope env.globals cl [] env.qual none .none (some env)) (fun cenv s₄ =>
      codeAny (model PG c.w) A (.compStart (.ListComp elt [⟨target, iter, ifs, 0⟩] scope pos) 0 it acc { cenv with scope := relabel scope env }) (RR acc cenv.locals) s₄) E s₃) E s₂) E s₁

/-- a comprehension as a value -/
def CompRes (c : Fix) (Q : Value → Shared → Prop) (acc : Value) (C : Addr) (r : Result) (s' : Shared) : Prop := match r with
  | .ok _ => ∃ D Z m W, acc = .ref D ∧ St c Z ((C, NS m) :: W) s' ∧ ∀ s'', St c Z W s'' → Q acc s''
  | .error _ => False
theorem e_comp {elt target iter : Expr} {ifs : List Expr} {scope : Scope} {pos : Pos} {cl : List (Str × Addr)} {E : Value → Shared → Prop} {Q : Value → Shared → Prop}
    (h : wpAny (model PG c.w) A (eval iter env) (fun x s₁ => CompGo c A env elt target iter ifs scope pos cl E (CompRes c Q) x s₁) E s)
    (hclos : closureFor scope env = pure cl) (hkind : scope.kind = .function) (hnames : ∀ x ∈ scope.names, x.2 = .local → scope.names.lookup x.1 = some .local)
    (hs : ∀ x, foldedSetIterable iter env x = pure x := by intro _; rfl) :
    wpAny (model PG c.w) A (eval (.ListComp elt [⟨target, iter, ifs, 0⟩] scope pos) env) Q E s := by
  rw [eval_ListComp]
  refine wpAny_comprehension_free (use := none) rfl hs hclos hkind hnames (wpAny_mono h (fun xv s₁ h₁ => wpAny_mono h₁ (fun it s₂ h₂ => wpAny_mono h₂ (fun acc s₃ h₃ => wpAny_mono h₃ (fun cenv s₄ h₄ => codeAny_mono h₄ fun r s' hr => ?_) fun _ _ e => e) fun _ _ e => e) fun _ _ e => e) fun _ _ e => e)
  cases r with
  | error e => exact hr.elim
  | ok f =>
    obtain ⟨D, Z', m, W', rfl, H, hq⟩ := hr
    refine ⟨m, ns_of (H.get (.head _)), fun h' hs' => hq _ ?_⟩
    exact H.loseS hs' _

/-- a comprehension assigned to a name -/
def CompResA (c : Fix) (A : Around) (env : Env) (y : Str) (K : Shared → Prop) (acc : Value) (C : Addr) (r : Result) (s' : Shared) : Prop := match r with
  | .ok _ => ∃ Z m W m' W', St c Z ((C, NS m) :: W) s' ∧ Rep env.locals (NS m') (NS (up m' y acc)) W W' ∧ ∀ s'', St c Z W' s'' → K s''
  | .error _ => False
theorem x_assign_comp {elt target iter : Expr} {ifs : List Expr} {scope : Scope} {pos spos py : Pos} {y : Str} {cl : List (Str × Addr)} {E : Value → Shared → Prop} {Q : Flow → Shared → Prop} {rest : List Stmt}
    (h : wpAny (model PG c.w) A (eval iter env) (fun x s₁ => CompGo c A env elt target iter ifs scope pos cl E (CompResA c A env y (fun s' => wpAny (model PG c.w) A (execs rest env) Q E s')) x s₁) E s)
    (hsw : swapsWith (.ListComp elt [⟨target, iter, ifs, 0⟩] scope pos) (some (.Name y py)) spos.line env = pure true)
    (hclos : closureFor scope env = pure cl) (hkind : scope.kind = .function) (hnames : ∀ x ∈ scope.names, x.2 = .local → scope.names.lookup x.1 = some .local)
    (hy : env.kindOf y = some .local) (hk : env.scope.kind = .function)
    (hs : ∀ x, foldedSetIterable iter env x = pure x := by intro _; rfl) :
    wpAny (model PG c.w) A (execs (.Assign [.Name y py] (.ListComp elt [⟨target, iter, ifs, 0⟩] scope pos) spos :: rest) env) Q E s := by
  refine wpAny_execs_cons ?_
  rw [exec_Assign_Name_used _ _ _ _ hsw]
  refine wpAny_bind (wpAny_standAt (wpAny_bind ?_))
  show wpAny _ A (do let _ ← comprehension (.ListComp elt [⟨target, iter, ifs, 0⟩] scope pos) scope env _ (newList []) false (eval iter env) (some (assign (.Name y py) env))) _ _ s
  refine wpAny_bind (wpAny_mono (wpAny_comprehension_free (use := some (assign (.Name y py) env)) (Q := fun _ s' => wpAny (model PG c.w) A (execs rest env) Q E s') rfl hs hclos hkind hnames
    (wpAny_mono h (fun xv s₁ h₁ => wpAny_mono h₁ (fun it s₂ h₂ => wpAny_mono h₂ (fun acc s₃ h₃ => wpAny_mono h₃ (fun cenv s₄ h₄ => codeAny_mono h₄ fun r s' hr => ?_) fun _ _ e => e) fun _ _ e => e) fun _ _ e => e) fun _ _ e => e)) (fun _ s' hq => wpAny_pure (wpAny_pure hq)) fun _ _ e => e)
  cases r with
  | error e => exact hr.elim
  | ok f =>
    obtain ⟨Z', m, W', m', W'', H, hr, hq⟩ := hr
    show wpAny _ A (assign (.Name y py) env acc) _ _ _
    refine wpAny_assign_Name (r_st (W' := (cenv.locals, NS m) :: W'') H (.tail hr) rfl (fun s'' H' => ?_) hk hy)
    exact ⟨m, ns_of (H'.get (.head _)), fun h' hs' => hq _ (H'.loseS hs' _)⟩
end

/-! iterators begin -/
section
variable {c : Fix} {A : Around} {Z : List (Addr × Obj)} {W : List (Addr × (Obj → Prop))} {s : Shared} {E : Value → Shared → Prop} {Q : Value → Shared → Prop} {l : Addr} {xs : List Value}
theorem it_list (H : St c Z W s) (hl : s.heap.IsList l xs.toArray) (k : ∀ it s', St c Z ((it, LITER l 0) :: W) s' → Q (.ref it) s') : wpAny (model PG c.w) A (pyIter (.ref l)) Q E s :=
  wpAny_pyIter_list hl (k _ _ (H.push ⟨rfl, rfl⟩ rfl _))
theorem it_tup (H : St c Z W s) (hl : IsTup s.heap l xs.toArray) (k : ∀ it s', St c Z ((it, TITER l 0) :: W) s' → Q (.ref it) s') : wpAny (model PG c.w) A (pyIter (.ref l)) Q E s :=
  wpAny_pyIter_tuple hl (k _ _ (H.push ⟨rfl, rfl⟩ rfl _))
def RANGE (a b : Int) (o : Obj) : Prop := ∃ t u v, o = { cls := .type "range", data := .fields #[.int a t, .int b u, .int 1 v] }
theorem range_size {a b : Int} (h : a ≤ b) : Builtin.Range.rangeSize a b 1 = b - a := by
  unfold Builtin.Range.rangeSize
  simp
  omega
theorem it_keys {d : Addr} {kvs : List (Int × Value)} {ep : Nat} (H : St c Z W s) (hd : (d == sysModules) = false) (hm : s.heap.DictAt (intKind PG c.w) d kvs ep) (k : ∀ it s', St c Z ((it, KITER d kvs.length ep 0) :: W) s' → Q (.ref it) s') : wpAny (model PG c.w) A (pyIter (.ref d)) Q E s :=
  wpAny_pyIter_dict hd hm (k _ _ (H.push ⟨rfl, rfl⟩ rfl _))
end
/-! calls -/
section
variable {c : Fix} {Z : List (Addr × Obj)} {W W' : List (Addr × (Obj → Prop))} {s : Shared} {A : Around} {E : Value → Shared → Prop} {env : Env} {pos : Pos} {Q : Value → Shared → Prop}
theorem keep_of {f : Value} {M : Model} (hk : keepIn (Kf c.w.params) f = true) (h : Heap) (X : ∃ s : Shared, s.heap = h ∧ ∃ Z W, St c Z W s) : ∃ k, (k = Keeper.frame ∨ k = Keeper.machine ∨ k = Keeper.boundFrame) ∧ Looks M h (keeperOf f) k := by
  obtain ⟨s, rfl, Z, W, H⟩ := X
  exact keeps_K hk _ H.KIn
/-- a call of what stands at the top, with arguments -/
theorem c_top {f : Value} {first : List Value} {e : Expr} {rest : List Expr} (hk : keepIn (Kf c.w.params) f = true)
    (h : wpAny (model PG c.w) A (spliced (backTo pos (starEach (e :: rest) env))) (fun vs s₁ => (∃ Z W, St c Z W s₁) ∧ wpAny (model PG c.w) A (call f (first ++ vs)) Q E s₁) E s)
    (he : starEach (e :: rest) env = (false, eval e env) :: starEach rest env := by rfl) (hplain : (backTo pos (starEach rest env)).any (·.1) = false := by rfl) :
    wpAny (model PG c.w) A (callWith pos f first (backTo pos (starEach (e :: rest) env)) []) Q E s := by
  rw [he] at h ⊢
  refine callWith_of (P := fun h => ∃ s : Shared, s.heap = h ∧ ∃ Z W, St c Z W s) (by show ((false || (backTo pos (starEach rest env)).any (·.1)) || false) = false; rw [hplain]; rfl) (keep_of hk) (evalArgs_plain (wpAny_mono h (fun vs s₁ h₁ => ⟨⟨s₁, rfl, h₁.1⟩, h₁.2⟩) fun _ _ e => e))
theorem c_top0 {f : Value} {first : List Value} (H : St c Z W s) (hk : keepIn (Kf c.w.params) f = true) (h : wpAny (model PG c.w) A (call f (first ++ [])) Q E s) :
    wpAny (model PG c.w) A (callWith pos f first (backTo pos (starEach [] env)) []) Q E s :=
  callWith_K0 H.KIn hk h

/-! objects of the text's own classes -/
def INST (C dx : Addr) (o : Obj) : Prop := o = instObj C dx
def IDICT (k : Nat) (m : Str → Option Value) (o : Obj) : Prop := ∃ es n, o = dictOf es n ∧ es.length ≤ k ∧ (∀ e ∈ es, ∃ nm t, e.key = .str nm t) ∧ ∀ name, getL name es = some (m name)

theorem refKey_str {e : DictEntry} (h : ∃ nm t, e.key = .str nm t) : e.refKey = false := by
  obtain ⟨nm, t, h⟩ := h
  simp [DictEntry.refKey, h]
theorem getL_put {name x : Str} {hsh : Int} {t : Nat} {v : Value} : ∀ {es : List DictEntry}, (∀ e ∈ es, ∃ nm t, e.key = .str nm t) → getL x (putL name hsh (.str name t) v es) = if x = name then some (some v) else getL x es
  | [], _ => by
    unfold getL putL
    by_cases h : x = name
    · subst h; simp [Value.isStr]
    · have : (name == x) = false := by simpa using fun e => h e.symm
      simp [Value.isStr, h, this, DictEntry.refKey]
  | e :: r, hk => by
    obtain ⟨nm, t', he⟩ := hk e (.head _)
    have ih := getL_put (x := x) (name := name) (hsh := hsh) (t := t) (v := v) (es := r) fun e' h' => hk e' (.tail _ h')
    have hr : ∀ l : List DictEntry, (∀ e ∈ l, ∃ nm t, e.key = .str nm t) → l.any (·.refKey) = false := fun l hl => by
      rw [List.any_eq_false]; intro e' h'; rw [refKey_str (hl e' h')]; simp
    unfold putL
    by_cases h1 : e.key.isStr name = true
    · rw [if_pos h1]
      have e1 : nm = name := by rw [he] at h1; simpa [Value.isStr] using h1
      subst e1
      unfold getL
      simp only [List.find?_cons]
      by_cases h2 : x = nm
      · subst h2; simp [h1]
      · have : e.key.isStr x = false := by rw [he]; simpa [Value.isStr] using fun e => h2 e.symm
        simp [this, h2, List.any_cons, DictEntry.refKey]
    · rw [if_neg h1]
      have e1 : nm ≠ name := fun q => h1 (by rw [he, q]; simp [Value.isStr])
      unfold getL at ih ⊢
      simp only [List.find?_cons]
      by_cases h2 : e.key.isStr x = true
      · have e2 : nm = x := by rw [he] at h2; simpa [Value.isStr] using h2
        have h3 : ¬ x = name := fun q => e1 (e2.trans q)
        simp [h2, h3]
      · simp only [Bool.not_eq_true] at h2
        have r1 := refKey_str ⟨nm, t', he⟩
        simp only [h2, List.any_cons, r1, Bool.false_or]
        exact ih
theorem putL_keys {name : Str} {hsh : Int} {t : Nat} {v : Value} : ∀ {es : List DictEntry}, (∀ e ∈ es, ∃ nm t, e.key = .str nm t) → ∀ e ∈ putL name hsh (.str name t) v es, ∃ nm t, e.key = .str nm t
  | [], _, e, h => by unfold putL at h; rw [List.mem_singleton.mp h]; exact ⟨_, _, rfl⟩
  | e₀ :: r, hk, e, h => by
    unfold putL at h
    split at h
    · rcases List.mem_cons.mp h with rfl | h
      · exact hk e₀ (.head _)
      · exact hk e (.tail _ h)
    · rcases List.mem_cons.mp h with rfl | h
      · exact hk _ (.head _)
      · exact putL_keys (fun e' h' => hk e' (.tail _ h')) e h
theorem putL_length {name : Str} {hsh : Int} {key v : Value} : ∀ {es : List DictEntry}, (putL name hsh key v es).length ≤ es.length + 1
  | [] => by simp [putL]
  | e₀ :: r => by
    unfold putL
    split
    · simp
    · have := putL_length (name := name) (hsh := hsh) (key := key) (v := v) (es := r); simp; omega
theorem IDICT.put {k : Nat} {m : Str → Option Value} {name : Str} {hsh : Int} {t : Nat} {v : Value} {o : Obj} (h : IDICT k m o) : IDICT (k + 1) (up m name v) (Obj.putName name hsh (.str name t) v o) := by
  obtain ⟨es, n, rfl, h1, h2, h3⟩ := h
  refine ⟨_, _, putName_dict .., Nat.le_trans putL_length (Nat.succ_le_succ h1), putL_keys h2, fun x => ?_⟩
  rw [getL_put h2, h3]
  unfold up
  by_cases h : x = name <;> simp [h]

theorem inst_at {x C dx : Addr} {od : Obj} (hx : ∃ o, s.heap.get? x = some o ∧ INST C dx o) (hd : s.heap.get? dx = some od) : InstAt s.heap x (instObj C dx) C (some od) := by
  obtain ⟨o, ho, rfl⟩ := hx
  exact ⟨ho, rfl, rfl, hd⟩

def AttrOk (w : World) (C : Addr) (name : Str) : Prop := plainGet (Kf w.params) C name = true ∧ hasDictIn (Kf w.params) C = true ∧ ∃ attr, findIn (Kf w.params) (.ref C) name = some attr ∧ noGet (Kf w.params) attr = true
def MethOk (w : World) (C : Addr) (name : Str) (f : Addr) : Prop := plainGet (Kf w.params) C name = true ∧ findIn (Kf w.params) (.ref C) name = some (some (.ref f)) ∧ isFn (Kf w.params) (.ref f) = true
def SetOk (w : World) (C : Addr) (name : Str) : Prop := findIn (Kf w.params) (.ref C) "__setattr__" = some (some (.builtin "object.__setattr__")) ∧ plainOver (Kf w.params) C = true ∧ takerIn (Kf w.params) C name = some none ∧ hasDictIn (Kf w.params) C = true
def MakeOk (w : World) (C fI : Addr) : Prop := makesIn (Kf w.params) C = true ∧ findIn (Kf w.params) (.ref C) "__init__" = some (some (.ref fI)) ∧ typeIn (Kf w.params) (.ref fI) = some (.type "function")

theorem g_attr {k : Nat} {x C dx : Addr} {m : Str → Option Value} {name : Str} {v : Value} {ex : Bool} (H : St c Z W s) (ok : AttrOk c.w C name) (hx : ∃ o, s.heap.get? x = some o ∧ INST C dx o) (hd : ∃ o, s.heap.get? dx = some o ∧ IDICT k m o)
    (hv : m name = some v) (hh : handedIn v = true) (kk : ∀ s', St c Z W s' → Q v s') : wpAny (model PG c.w) A (getAttr (.ref x) name ex) Q E s := by
  obtain ⟨o, ho, es, n, rfl, h1, h2, h3⟩ := hd
  obtain ⟨a1, a2, attr, a3, a4⟩ := ok
  exact get_value H.KIn (inst_at hx ho) (plainGet_of a1).1 (findObj_own a2 a3 a4 (by rw [lookIn_dict, h3, hv])) hh (kk _ (H.toks _))
theorem g_meth {k : Nat} {x C dx f : Addr} {m : Str → Option Value} {name : Str} {pl : Sem Bool} {QM : Value × List Value → Shared → Prop} (H : St c Z W s) (ok : MethOk c.w C name f) (hx : ∃ o, s.heap.get? x = some o ∧ INST C dx o) (hd : ∃ o, s.heap.get? dx = some o ∧ IDICT k m o)
    (hv : m name = none) (kk : QM (.ref f, [.ref x]) s) : wpAny (model PG c.w) A (getMethod (.ref x) name pl) QM E s := by
  obtain ⟨o, ho, es, n, rfl, h1, h2, h3⟩ := hd
  obtain ⟨a1, a2, a3⟩ := ok
  exact method_fn H.KIn (inst_at hx ho) (plainGet_of a1).1 (plainGet_of a1).2 a2 (beq_iff_eq.mp a3) (by show (lookIn name (dictOf es n)).map _ = _; rw [lookIn_dict, h3, hv]; rfl) kk

theorem g_set {k : Nat} {x C dx : Addr} {m : Str → Option Value} {name : Str} {v : Value} {QU : Unit → Shared → Prop} (H : St c Z W s) (ok : SetOk c.w C name) (hx : ∃ o, s.heap.get? x = some o ∧ INST C dx o) (hr : Rep dx (IDICT k m) (IDICT (k + 1) (up m name v)) W W') (hk : k < 900)
    (kk : ∀ s', St c Z W' s' → QU () s') : wpAny (model PG c.w) A (setAttr (.ref x) name v) QU E s := by
  obtain ⟨od, hod, hid⟩ := H.get hr.mem
  obtain ⟨a1, a2, a3, a4⟩ := ok
  have I := inst_at hx hod
  refine set_plain H.KIn I a1 ?_
  refine osa_open (s := { s with toks := s.toks + 1 }) H.KIn I a2 a3 fun b => ?_
  obtain ⟨cd, hc, hd'⟩ := any_some a4
  obtain ⟨hx', hcl, hn, -⟩ := I
  have hput := hid.put (name := name) (hsh := PyData.keyHash c.w.params name) (t := s.toks + 1) (v := v)
  obtain ⟨es', n', he', hl', -, -⟩ := hput
  have Lc : Looks (model PG c.w) ({ s with toks := s.toks + 1 } : Shared).heap (classData C) cd := looks_clsIn H.KIn hc
  refine wpAny_bind (wpAny_pure (wpAny_bind (wpAny_bind (wpAny_loadPart hx' (wpAny_bind (Lc.here ?_))))))
  rw [hd']
  refine wpAny_pure (a := some dx) (wpAny_bind (wpAny_pure (wpAny_bind ?_)))
  unfold nsSet
  refine wpAny_bind (wpAny_bind (wpAny_askSetting (wpAny_pure (wpAny_bind (wpAny_mkText (wpAny_bind (wpAny_loadPart hod ?_)))))))
  obtain ⟨es, n, rfl, h1, h2, h3⟩ := hid
  dsimp only
  have cc : (!es.toArray.any (·.key.isStr name) && es.toArray.any (·.refKey)) = false := by
    rw [Bool.and_eq_false_iff]
    right
    rw [← Array.any_toList, List.any_eq_false]; intro e' h'; rw [refKey_str (h2 e' h')]; simp
  rw [aRefKeyMayBeTheName_at, cc]
  have hget := Heap.get?_update_self (Obj.putName name (PyData.keyHash c.w.params name) (.str name (s.toks + 1)) v) hod (by rw [he']; rfl)
  refine wpAny_updatePart hod ?_
  refine wpAny_bind (wpAny_lookBehind hget (by rw [he']; exact pastItsLine_dict (by rw [List.size_toArray, sizeLine_eq]; omega)) ?_)
  refine wpAny_pure (kk _ ?_)
  exact H.turnS hr (Heap.SameBut.update ..) ⟨_, hget, (show IDICT k m (dictOf es n) from ⟨es, n, rfl, h1, h2, h3⟩).put⟩ _

theorem am_make {d : Nat} {C : Addr} {vals : List Value} (hA : Am A (d + 1)) : Am (A.under (.builtin "type.__call__" ⟨.ref C :: vals, []⟩)) d := by
  refine ⟨hA.hh, ?_, ?_⟩
  · rw [depth_under_make]; have := hA.dep; omega
  · have e : (A.under (.builtin "type.__call__" ⟨.ref C :: vals, []⟩)).units ≤ A.units + 10 := by
      show A.units + Code.cUnits _ ≤ _
      have : Code.cUnits (.builtin "type.__call__" ⟨.ref C :: vals, []⟩) ≤ 10 := by
        show 1 + 3 * (Code.builtin "type.__call__" ⟨.ref C :: vals, []⟩).frames ≤ 10
        rw [show (Code.builtin "type.__call__" ⟨.ref C :: vals, []⟩).frames = 0 from rfl]
        omega
      omega
    have := hA.un; omega
theorem g_make {C fI : Addr} {rest : List Value} {d : Nat} (H : St c Z W s) (hA : Am A (d + 1)) (ok : MakeOk c.w C fI)
    (h : ∀ x dx s', St c Z ((x, INST C dx) :: (dx, IDICT 0 (fun _ => none)) :: W) s' → ∀ A', Am A' d → codeAny (model PG c.w) A' (.call (.ref fI) ⟨.ref x :: rest, []⟩) (fun r s' => match r with | .ok (.ret v) => (fun v s' => v = .none ∧ Q (.ref x) s') v s' | .ok _ => False | .error e => NoE e s') s') :
    wpAny (model PG c.w) A (call (.ref C) rest) Q E s := by
  obtain ⟨a1, a2, a3⟩ := ok
  have Y := makes_of (M := model PG c.w) H.KIn a1
  have Li := looks_findIn (M := model PG c.w) H.KIn a2
  have H₁ : St c Z ((s.heap.objs.size, IDICT 0 (fun _ => none)) :: W) { s with heap := s.heap.push emptyDict } := H.push (o := emptyDict) ⟨[], 0, rfl, Nat.le_refl _, fun _ h => (nomatch h), fun _ => rfl⟩ rfl _
  have H₂ : St c Z (((s.heap.push emptyDict).objs.size, INST C s.heap.objs.size) :: (s.heap.objs.size, IDICT 0 (fun _ => none)) :: W) { s with heap := (s.heap.push emptyDict).push (instObj C s.heap.objs.size) } :=
    H₁.push (P := INST C s.heap.objs.size) (o := instObj C s.heap.objs.size) rfl rfl _
  refine wpAny_call (make_core (h := s.heap) (g := s.gens) (d := s.drawn) (t := s.toks) (os := s.os) Y Li (fun self => bind_fn H.KIn self a3) (.inl rfl) ?_)
  rw [Heap.size_push] at H₂
  refine codeAny_mono (h (s.heap.objs.size + 1) s.heap.objs.size _ H₂ _ (am_make hA)) fun r s' z => ?_
  rcases r with e | (v | _ | _ | _) <;> first | exact z.elim | exact z
end
section
variable {c : Fix} {Z : List (Addr × Obj)} {W W' : List (Addr × (Obj → Prop))} {s : Shared} {A : Around} {E : Value → Shared → Prop} {env : Env} {pos : Pos} {Q : Value → Shared → Prop} {l : Addr} {xs : List Value} {i : Int} {t : Tok} {v : Value}

theorem t_item {value slice : Expr} {o i : Value} {T id : String} (hT : s.TypeIs o T) (hl : typeLookup (.type T) "__getitem__" = pure (some (.builtin id))) (h : wpAny (model PG c.w) A (getItem o i) Q E s)
    (hs : subscripted slice false o i = operate [o, i] (getItem o i) := by rfl) : wpAny (model PG c.w) A (subscriptTail value slice o i) Q E s := by
  unfold subscriptTail
  refine wpAny_bind ?_
  rw [getitemInPython_of_ne hT.not_modules]
  refine wpAny_bind (wpAny_specialOf hT hl ?_)
  have fin : wpAny (model PG c.w) A (subscripted slice false o i) (fun r s₃ => wpAny (model PG c.w) A (letTemporaryGo value o r >>= fun _ => pure r) Q E s₃) E s := by
    rw [hs]
    exact wpAny_operating (wpAny_mono h (fun r s₃ h₃ => wpAny_bind (wpAny_letTemporaryGo (wpAny_pure h₃))) fun _ _ x => x)
  first
    | exact wpAny_pure (wpAny_bind fin)
    | exact wpAny_bind (wpAny_pure (wpAny_bind fin))
    | exact wpAny_bind fin
theorem t_slice {value slice : Expr} {o i : Value} {T id : String} (hT : s.TypeIs o T) (hl : typeLookup (.type T) "__getitem__" = pure (some (.builtin id))) (h : wpAny (model PG c.w) A (getItem o i) Q E s)
    (hs : subscripted slice false o i = operate [i, o] (getItem o i) := by rfl) : wpAny (model PG c.w) A (subscriptTail value slice o i) Q E s := by
  unfold subscriptTail
  refine wpAny_bind ?_
  rw [getitemInPython_of_ne hT.not_modules]
  refine wpAny_bind (wpAny_specialOf hT hl ?_)
  have fin : wpAny (model PG c.w) A (subscripted slice false o i) (fun r s₃ => wpAny (model PG c.w) A (letTemporaryGo value o r >>= fun _ => pure r) Q E s₃) E s := by
    rw [hs]
    exact wpAny_operating (wpAny_mono h (fun r s₃ h₃ => wpAny_bind (wpAny_letTemporaryGo (wpAny_pure h₃))) fun _ _ x => x)
  first
    | exact wpAny_pure (wpAny_bind fin)
    | exact wpAny_bind (wpAny_pure (wpAny_bind fin))
    | exact wpAny_bind fin

theorem t_list {value slice : Expr} (hl : ∃ o, s.heap.get? l = some o ∧ LIST xs o) (h0 : 0 ≤ i) (hb : i < 2 ^ 63) (hx : xs[i.toNat]? = some v) (k : Q v s)
    (hs : subscripted slice false (.ref l) (.int i t) = operate [.ref l, .int i t] (getItem (.ref l) (.int i t)) := by rfl) : wpAny (model PG c.w) A (subscriptTail value slice (.ref l) (.int i t)) Q E s :=
  t_item (list_of hl).typeIs slot_list_getitem.lookup (r_item (list_of hl) h0 hb hx k) hs
theorem t_tup {value slice : Expr} (hl : ∃ o, s.heap.get? l = some o ∧ TUP xs o) (h0 : 0 ≤ i) (hb : i < 2 ^ 63) (hx : xs[i.toNat]? = some v) (k : Q v s)
    (hs : subscripted slice false (.ref l) (.int i t) = operate [.ref l, .int i t] (getItem (.ref l) (.int i t)) := by rfl) : wpAny (model PG c.w) A (subscriptTail value slice (.ref l) (.int i t)) Q E s := by
  have hlt := (List.getElem?_eq_some_iff.mp hx).1
  refine t_item (tup_of hl).typeIs slot_tuple_getitem.lookup (getItem_tuple (j := i.toNat) (tup_of hl) (by omega) hb ?_ (by simpa using hx) k) hs
  unfold seqIndex?
  rw [List.size_toArray]
  have h1 : ¬ i < 0 := by omega
  have h2 : ¬ (i < 0 ∨ i ≥ xs.length) := by omega
  simp [h1]
  omega
theorem t_dict {d : Addr} {kvs : List (Int × Value)} {value slice : Expr} (H : St c Z W s) (hd : ∃ o, s.heap.get? d = some o ∧ DICT c.w kvs o) (hx : valueAt kvs i = some v) (k : ∀ s', St c Z W s' → Q v s')
    (hs : subscripted slice false (.ref d) (.int i t) = operate [.ref d, .int i t] (getItem (.ref d) (.int i t)) := by rfl) : wpAny (model PG c.w) A (subscriptTail value slice (.ref d) (.int i t)) Q E s :=
  t_item (dict_of hd).typeIs slot_dict_getitem.lookup (wpAny_getItem_of (knd := intKind PG c.w) (by simp [intKind, Value.isInt]) (dict_of hd).mapOf hx (k _ (H.toks _))) hs

theorem b_len_list (H : St c Z W s) (hl : ∃ o, s.heap.get? l = some o ∧ LIST xs o) (hz : xs.length < 2 ^ 62) (k : ∀ t s', St c Z W s' → Q (.int xs.length t) s') : wpAny (model PG c.w) A (call (.builtin "len") [.ref l]) Q E s :=
  call_len_list (list_of hl) (by rw [List.size_toArray]; omega) (by have := k (s.toks + 1) _ (H.toks (s.toks + 1 + 1)); simpa using this)
end

/-! global names -/
theorem fill_frag : PySem.Challenge.rw_on0165_01 = PySem.Challenge.rw_on0165_01 ∧ Kf = Kf := by
  k_fill
  exact ⟨rfl, rfl⟩
section
variable (w : World)
theorem n_len : nsIn (Kf w.params) mainGlobals (Str.ofString "len") = some none := by k_is
theorem n_draw : nsIn (Kf w.params) mainGlobals (Str.ofString "_law_draw") = some (some (.ref 224)) := by k_is
end
section
variable {c : Fix} {Z : List (Addr × Obj)} {W W' : List (Addr × (Obj → Prop))} {s : Shared} {A : Around} {E : Value → Shared → Prop} {env : Env} {pos : Pos} {Q : Value → Shared → Prop} {l b : Addr} {xs ys : List Value} {i : Int} {t : Tok} {v : Value}

theorem sz_of {n : Nat} (h : n ≤ 1000000) : n ≤ sizeLine := by rw [sizeLine_eq]; omega

theorem q_meth {name : Str} {id : String} {pl : Sem Bool} {QM : Value × List Value → Shared → Prop} (hl : ∃ o, s.heap.get? l = some o ∧ LIST xs o) (slot : Slot "list" name id) (hty : typeOf (.builtin id) = pure (.type "method_descriptor"))
    (h : QM (.builtin id, [.ref l]) s) : wpAny (model PG c.w) A (getMethod (.ref l) name pl) QM E s := by
  obtain ⟨n, ho⟩ := list_at hl
  exact getMethod_builtin ⟨_, ho, rfl⟩ PySem.F.plainAttrs_list slot hty (fun a e => by cases e; exact ⟨_, ho, rfl⟩) h

theorem mapSeq_list {xs ys : List Value} {n : Nat} {f : Array Value → Array Value} (h : f xs.toArray = ys.toArray) : LIST ys (Obj.mapSeq f { cls := .type "list", data := .seq xs.toArray n }) :=
  ⟨if (f xs.toArray).size == xs.toArray.size then n else n + 1, by simp only [Obj.mapSeq, h]⟩
theorem mapSeq_last {xs : List Value} {v : Value} {n : Nat} : LIST xs (Obj.mapSeq (fun ys => ys.eraseIdxIfInBounds ((xs ++ [v]).toArray.size - 1)) { cls := .type "list", data := .seq (xs ++ [v]).toArray n }) :=
  mapSeq_list (by have h := kl_erase xs [] v; simpa using h)
theorem r_pop (H : St c Z W s) (hr : Rep l (LIST (xs ++ [v])) (LIST xs) W W') (hz : xs.length < 1000000) (k : ∀ s', St c Z W' s' → Q v s') : wpAny (model PG c.w) A (call (.builtin "list.pop") [.ref l]) Q E s := by
  obtain ⟨n, ho⟩ := list_at (H.get hr.mem)
  exact call_meets PySem.F.slot_list_pop ⟨_, ho, rfl⟩ PySem.F.entry_list_pop (PySem.F.args_list_pop_1 _) (PySem.MeetsSeq.list_pop_last l _ n v (by simp) (sz_of (by simp; omega)))
    ⟨ho, k _ (H.turnS hr (Heap.SameBut.update ..) ⟨_, Heap.get?_update_self _ ho (Obj.isFreed_of_seq rfl), mapSeq_last⟩ s.toks)⟩

theorem mapSeq_more {xs ys : List Value} {n : Nat} : LIST (xs ++ ys) (Obj.mapSeq (fun x => x ++ ys.toArray) { cls := .type "list", data := .seq xs.toArray n }) := mapSeq_list (by simp)
theorem r_extend (H : St c Z W s) (hr : Rep l (LIST xs) (LIST (xs ++ ys)) W W') (hb : ∃ o, s.heap.get? b = some o ∧ LIST ys o) (hz : xs.length + ys.length ≤ 1000000) (k : ∀ s', St c Z W' s' → Q .none s') : wpAny (model PG c.w) A (call (.builtin "list.extend") [.ref l, .ref b]) Q E s := by
  obtain ⟨n, ho⟩ := list_at (H.get hr.mem)
  obtain ⟨n2, ho2⟩ := list_at hb
  have e := sizeLine_eq
  have a1 : xs.toArray.size ≤ sizeLine := by rw [List.size_toArray]; omega
  have a2 : xs.toArray.size + ys.toArray.size ≤ sizeLine := by rw [List.size_toArray, List.size_toArray]; omega
  exact call_meets PySem.F.slot_list_extend ⟨_, ho, rfl⟩ PySem.F.entry_list_extend (PySem.F.args_list_extend_2 _ _) (AutoSeq1.list_extend_list_list_0 l _ n b _ n2 (by simp [Builtin.List.listTooLong]; omega) a1 (Nat.le_succ_of_le a2))
    ⟨ho, ho2, k _ (H.turnS hr (Heap.SameBut.update ..) ⟨_, Heap.get?_update_self _ ho (Obj.isFreed_of_seq rfl), mapSeq_more⟩ s.toks)⟩

theorem fold_rep (v : Value) : ∀ (k : Nat) (acc : Array Value), List.foldl (fun x1 x2 => x1 ++ x2) acc (List.replicate k #[v]) = acc ++ (List.replicate k v).toArray
  | 0, acc => by simp
  | k + 1, acc => by
    rw [List.replicate_succ, List.foldl_cons, fold_rep v k, List.replicate_succ]
    apply Array.toList_inj.mp
    simp
/-- [v] * i -/
theorem r_rep (H : St c Z W s) (hl : ∃ o, s.heap.get? l = some o ∧ LIST [v] o) (h0 : 0 ≤ i) (hz : i ≤ 1000000) (k : ∀ a s', St c Z ((a, LIST (List.replicate i.toNat v)) :: W) s' → Q (.ref a) s') : wpAny (model PG c.w) A (binaryOp .Mult (.ref l) (.int i t)) Q E s := by
  obtain ⟨n, ho⟩ := list_at hl
  have e := sizeLine_eq
  refine wpAny_binaryOp_repeat_ref (T := "list") (U := "int") (by decide) ⟨_, ho, rfl⟩ (fun s' => typeIs_int s' i t) noFill_list_mul PySem.F.fills_int_mul PySem.F.slot_int_rmul repeat_list PySem.F.slot_int_index.lookup
    (call_meets PySem.F.slot_int_rmul (typeIs_int s i t) PySem.F.entry_int_rmul (PySem.F.args_int_rmul_2 _ _) (int___rmul___int_list i t l _ n)
      ⟨ho, rfl, ⟨_, ho, rfl⟩, call_meets PySem.F.slot_list_mul ⟨_, ho, rfl⟩ PySem.F.entry_list_mul (PySem.F.args_list_mul_2 _ _)
        (AutoListH.list___mul___list_int_3 l _ n i t (by simp [Builtin.List.listFitsIndex]; omega) (by simp; omega) (by simp [Builtin.List.listTooLong]; omega))
        ⟨ho, k _ _ (H.push ⟨0, ?_⟩ rfl _)⟩⟩)
  rw [fold_rep]
  simp

theorem r_concat (H : St c Z W s) (hl : ∃ o, s.heap.get? l = some o ∧ LIST xs o) (hb : ∃ o, s.heap.get? b = some o ∧ LIST ys o) (hz : xs.length + ys.length ≤ 1000000) (k : ∀ a s', St c Z ((a, LIST (xs ++ ys)) :: W) s' → Q (.ref a) s') :
    wpAny (model PG c.w) A (binaryOp .Add (.ref l) (.ref b)) Q E s := by
  obtain ⟨n, ho⟩ := list_at hl
  obtain ⟨n2, ho2⟩ := list_at hb
  exact concat_meets ⟨_, ho, rfl⟩ ⟨_, ho2, rfl⟩ noFill_list_add seq_list_add PySem.F.slot_list_add PySem.F.entry_list_add (PySem.F.args_list_add_2 _ _) (AutoSeq1.list___add___list_list_0 l _ n b _ n2 (sz_of (by simpa using hz))) ⟨ho, ho2, k _ _ (H.push ⟨0, by simp⟩ rfl _)⟩

/-- list(list), list(tuple) -/
theorem r_list_list (H : St c Z W s) (hl : ∃ o, s.heap.get? l = some o ∧ LIST xs o) (hz : xs.length ≤ 1000000) (k : ∀ a s', St c Z ((a, LIST xs) :: W) s' → Q (.ref a) s') : wpAny (model PG c.w) A (call (.type "list") [.ref l]) Q E s := by
  obtain ⟨n, ho⟩ := list_at hl
  exact call_list_seq l (.inl rfl) ho rfl rfl (fun h' c' hk hn => k _ _ (H.new hk hn ⟨c', rfl⟩ s.toks)) (sz_of (by simpa using hz))
theorem r_list_tup (H : St c Z W s) (hl : ∃ o, s.heap.get? l = some o ∧ TUP xs o) (hz : xs.length ≤ 1000000) (k : ∀ a s', St c Z ((a, LIST xs) :: W) s' → Q (.ref a) s') : wpAny (model PG c.w) A (call (.type "list") [.ref l]) Q E s := by
  obtain ⟨n, ho⟩ := tup_at hl
  exact call_list_seq l (.inr rfl) ho rfl rfl (fun h' c' hk hn => k _ _ (H.new hk hn ⟨c', rfl⟩ s.toks)) (sz_of (by simpa using hz))
theorem r_tup_list (H : St c Z W s) (hl : ∃ o, s.heap.get? l = some o ∧ LIST xs o) (hz : xs.length ≤ 1000000) (k : ∀ a s', St c Z ((a, TUP xs) :: W) s' → Q (.ref a) s') : wpAny (model PG c.w) A (call (.type "tuple") [.ref l]) Q E s :=
  call_tuple_list (list_of hl) (fun h' hk => k _ _ ((H.heap hk s.toks).push (o := { cls := .type "tuple", data := .seq xs.toArray }) ⟨0, rfl⟩ rfl s.toks)) (sz_of (by simpa using hz))

theorem r_len_tup (H : St c Z W s) (hl : ∃ o, s.heap.get? l = some o ∧ TUP xs o) (hz : xs.length < 2 ^ 62) (k : ∀ t s', St c Z W s' → Q (.int xs.length t) s') : wpAny (model PG c.w) A (call (.builtin "len") [.ref l]) Q E s :=
  len_tuple (tup_of hl) (by rw [List.size_toArray]; omega) (by have := k (s.toks + 1) _ (H.toks (s.toks + 1 + 1)); simpa using this)

theorem r_true_list {QB : Bool → Shared → Prop} (H : St c Z W s) (hl : ∃ o, s.heap.get? l = some o ∧ LIST xs o) (hz : xs.length < 2 ^ 62) (k : ∀ s', St c Z W s' → QB (!xs.isEmpty) s') : wpAny (model PG c.w) A (truthy (.ref l)) QB E s :=
  wpAny_truthy_list (list_of hl) (by rw [List.size_toArray]; omega) (by have := k _ (H.toks (s.toks + 1 + 1)); simpa using this)

theorem r_int_int {u : Tok} (k : Q (.int i u) s) : wpAny (model PG c.w) A (call (.type "int") [.int i u]) Q E s := call_int_int k

theorem r_range (H : St c Z W s) (k : ∀ a s', St c Z ((a, RANGE 0 i) :: W) s' → Q (.ref a) s') : wpAny (model PG c.w) A (call (.type "range") [.int i t]) Q E s :=
  call_range_1 (k _ _ (H.push (P := RANGE 0 i) (o := { cls := .type "range", data := .fields #[.int 0 s.toks, .int i t, .int 1 (s.toks + 1)] }) ⟨_, _, _, rfl⟩ rfl (s.toks + 1 + 1)))
theorem it_range {n : Nat} (H : St c Z W s) (hr : ∃ o, s.heap.get? l = some o ∧ RANGE 0 n o) (hn : n ≤ 1000000) (k : ∀ it s', St c Z ((it, RITER 0 n 0) :: W) s' → Q (.ref it) s') : wpAny (model PG c.w) A (pyIter (.ref l)) Q E s := by
  obtain ⟨o, ho, t, u, v, rfl⟩ := hr
  have hs : Builtin.Range.small 0 (n : Int) 1 = true := small_one (by omega) (by omega) (by omega) (by omega)
  refine wpAny_pyIter_range ho hs (k _ _ (H.push ?_ rfl _))
  rw [range_size (by omega)]
  unfold RITER
  simp

theorem r_index {ns : List Str} {x : Str} (H : St c Z W s) (hl : ∃ o, s.heap.get? l = some o ∧ LIST xs o) (hi : StrsAre xs ns) (hx : x ∈ ns) (hz : ns.length < 1000000) (k : ∀ t s', St c Z W s' → Q (.int (ns.idxOf x : Nat) t) s') :
    wpAny (model PG c.w) A (call (.builtin "list.index") [.ref l, .str x t]) Q E s := by
  obtain ⟨n, ho⟩ := list_at hl
  have hlen := hi.len_eq
  have hj : ns.idxOf x < ns.length := List.idxOf_lt_length_iff.mpr hx
  have key : ∀ j (h1 : j < xs.length) (h2 : j < ns.length), isStrOf x xs[j] = (ns[j] == x) := fun j h1 h2 => by
    obtain ⟨u, e⟩ := hi.at (List.getElem?_eq_getElem h2)
    rw [List.getElem?_eq_getElem h1] at e
    rw [Option.some.inj e]
    rfl
  refine call_meets PySem.F.slot_list_index ⟨_, ho, rfl⟩ PySem.F.entry_list_index (PySem.F.args_list_index_2 _ _)
    (PySem.SeqAt.list_indexAt l xs.toArray n none #[] (.str x t) (isStrOf x) (ns.idxOf x) (by simpa [hlen] using hj) (by omega) ?_ ?_) ⟨ho, fun y hy => (eq_isStrOf x t hi y (by simpa using hy)).at _ _, k _ _ (H.toks _)⟩
  · show isStrOf x xs[ns.idxOf x] = true
    rw [key _ (by omega) hj]
    simpa using List.getElem_idxOf hj
  · intro j hjs hlt
    show isStrOf x xs[j] = false
    rw [key j (by simpa using hjs) (by omega)]
    have := List.not_of_lt_findIdx hlt
    simpa using this

theorem r_in_strs {ns : List Str} {x : Str} (hl : ∃ o, s.heap.get? l = some o ∧ LIST xs o) (hi : StrsAre xs ns) (k : Q (.bool (ns.any (· == x))) s) : wpAny (model PG c.w) A (compareOp .In (.str x t) (.ref l)) Q E s := in_list_strs (list_of hl) hi k
theorem r_notin_strs {ns : List Str} {x : Str} (hl : ∃ o, s.heap.get? l = some o ∧ LIST xs o) (hi : StrsAre xs ns) (k : Q (.bool (!ns.any (· == x))) s) : wpAny (model PG c.w) A (compareOp .NotIn (.str x t) (.ref l)) Q E s := notin_list_strs (list_of hl) hi k
end
/-- a dict of ints -/
def VI (kvs : List (Int × Value)) (kv : List (Int × Int)) : Prop := kvs.map (·.1) = kv.map (·.1) ∧ kvs.length = kv.length ∧ ∀ (j : Nat) (p : Int × Value) (q : Int × Int), kvs[j]? = some p → kv[j]? = some q → ∃ t, p.2 = Value.int q.2 t
def DI (w : World) (kv : List (Int × Int)) (o : Obj) : Prop := ∃ kvs, DICT w kvs o ∧ VI kvs kv
def iv (kv : List (Int × Int)) (k : Int) : Option Int := (kv.find? fun p => p.1 = k).map (·.2)
def ist (kv : List (Int × Int)) (k m : Int) : List (Int × Int) := if kv.any (fun p => p.1 = k) then kv.map (fun p => if p.1 = k then (p.1, m) else p) else kv ++ [(k, m)]

theorem VI.cons_inv {p : Int × Value} {kvs : List (Int × Value)} {q : Int × Int} {kv : List (Int × Int)} (h : VI (p :: kvs) (q :: kv)) : p.1 = q.1 ∧ (∃ t, p.2 = Value.int q.2 t) ∧ VI kvs kv := by
  obtain ⟨a, b, c⟩ := h
  simp only [List.map_cons, List.cons.injEq, List.length_cons] at a b
  exact ⟨a.1, c 0 p q rfl rfl, a.2, by omega, fun j p q hp hq => c (j + 1) p q (by simpa using hp) (by simpa using hq)⟩
theorem VI.cons {p : Int × Value} {kvs : List (Int × Value)} {q : Int × Int} {kv : List (Int × Int)} (h1 : p.1 = q.1) (h2 : ∃ t, p.2 = .int q.2 t) (h : VI kvs kv) : VI (p :: kvs) (q :: kv) := by
  obtain ⟨a, b, c⟩ := h
  refine ⟨by simp [h1, a], by simp [b], fun j p' q' hp hq => ?_⟩
  cases j with
  | zero => simp at hp hq; subst hp hq; exact h2
  | succ j => exact c j p' q' (by simpa using hp) (by simpa using hq)
theorem VI.nil : VI [] [] := ⟨rfl, rfl, fun j p q hp => by simp at hp⟩
theorem VI.ind {P : List (Int × Value) → List (Int × Int) → Prop} (h0 : P [] []) (h1 : ∀ k v kvs m t kv, v = Value.int m t → VI kvs kv → P kvs kv → P ((k, v) :: kvs) ((k, m) :: kv)) : ∀ kvs kv, VI kvs kv → P kvs kv
  | [], [], _ => h0
  | [], _ :: _, h => by have := h.2.1; simp at this
  | _ :: _, [], h => by have := h.2.1; simp at this
  | (k, v) :: kvs, (k', m) :: kv, h => by
    obtain ⟨e, ⟨t, e2⟩, h'⟩ := h.cons_inv
    obtain rfl : k = k' := e
    exact h1 k v kvs m t kv e2 h' (VI.ind h0 h1 kvs kv h')
theorem VI.at {kvs : List (Int × Value)} {kv : List (Int × Int)} (h : VI kvs kv) (k : Int) : match iv kv k with | some m => ∃ t, valueAt kvs k = some (.int m t) | none => valueAt kvs k = none := by
  refine VI.ind (P := fun kvs kv => match iv kv k with | some m => ∃ t, valueAt kvs k = some (.int m t) | none => valueAt kvs k = none) rfl (fun k' v kvs m t kv e _ ih => ?_) kvs kv h
  subst e
  unfold iv valueAt at *
  by_cases hk : k' = k
  · simp [hk]
  · simpa [hk] using ih
theorem VI.any {kvs : List (Int × Value)} {kv : List (Int × Int)} (h : VI kvs kv) (k : Int) : kvs.any (fun p => p.1 = k) = kv.any (fun p => p.1 = k) :=
  VI.ind (P := fun kvs kv => kvs.any (fun p => p.1 = k) = kv.any (fun p => p.1 = k)) rfl (fun k' v kvs m t kv e _ ih => by simp only [List.any_cons, ih]) kvs kv h
theorem VI.put {kvs : List (Int × Value)} {kv : List (Int × Int)} (h : VI kvs kv) (k m : Int) (t : Tok) : VI (stored kvs k (.int m t)) (ist kv k m) := by
  unfold stored ist
  rw [h.any k]
  split
  · refine VI.ind (P := fun kvs kv => VI (kvs.map fun p => if p.1 = k then (p.1, .int m t) else p) (kv.map fun p => if p.1 = k then (p.1, m) else p)) .nil (fun k' v kvs m' t' kv e _ ih => ?_) kvs kv h
    subst e
    simp only [List.map_cons]
    refine VI.cons ?_ ?_ ih <;> (split <;> simp)
  · refine VI.ind (P := fun kvs kv => VI (kvs ++ [(k, .int m t)]) (kv ++ [(k, m)])) (VI.cons rfl ⟨t, rfl⟩ .nil) (fun k' v kvs m' t' kv e _ ih => VI.cons rfl ⟨t', e⟩ ih) kvs kv h
theorem DI.nodup {w : World} {kv : List (Int × Int)} {o : Obj} (h : DI w kv o) : (kv.map (·.1)).Nodup := by
  obtain ⟨kvs, ⟨_, _, _, _, _, _, hn⟩, h1, _⟩ := h
  rw [← h1]; exact hn

section
variable {c : Fix} {Z : List (Addr × Obj)} {W W' : List (Addr × (Obj → Prop))} {s : Shared} {A : Around} {E : Value → Shared → Prop} {env : Env} {pos : Pos} {Q : Value → Shared → Prop} {d b : Addr} {kv kv2 : List (Int × Int)} {i m : Int} {t u : Tok} {v : Value}

theorem St.notmod {P : Obj → Prop} (H : St c Z W s) (h : (d, P) ∈ W) : (d == sysModules) = false := by
  have := H.big.1 _ h
  exact beq_eq_false_iff_ne.mpr this
theorem St.notmodZ {P : Obj → Prop} (H : St c Z W s) (h : Zs Z d P) : (d == sysModules) = false := by
  obtain ⟨o, ho, _⟩ := h
  have := H.big.2 _ ho
  exact beq_eq_false_iff_ne.mpr this
theorem i_key : (intKind PG c.w).is i (.int i t) = true := by simp [intKind, Value.isInt]
theorem di_of {h : Heap} (hd : ∃ o, h.get? d = some o ∧ DI c.w kv o) : ∃ kvs, h.DictOf (intKind PG c.w) d kvs ∧ VI kvs kv := let ⟨o, ho, kvs, h1, h2⟩ := hd; ⟨kvs, dict_of ⟨o, ho, h1⟩, h2⟩
theorem of_di {h : Heap} {kvs : List (Int × Value)} (hd : h.DictOf (intKind PG c.w) d kvs) (hv : VI kvs kv) : ∃ o, h.get? d = some o ∧ DI c.w kv o := let ⟨o, ho, h1⟩ := of_dict hd; ⟨o, ho, kvs, h1, hv⟩

theorem r_dict0 (H : St c Z W s) (k : ∀ a s', St c Z ((a, DI c.w []) :: W) s' → Q (.ref a) s') : wpAny (model PG c.w) A (newDict) Q E s :=
  wpAny_newObj_type (k _ _ (H.push ⟨[], ⟨#[], 0, ⟨rfl, rfl, rfl⟩, rfl, by intro e he; simp at he, .nil, .nil⟩, .nil⟩ rfl _))

theorem d_getitem (H : St c Z W s) (hd : ∃ o, s.heap.get? d = some o ∧ DI c.w kv o) (hx : iv kv i = some m) (k : ∀ t s', St c Z W s' → Q (.int m t) s') : wpAny (model PG c.w) A (getItem (.ref d) (.int i t)) Q E s := by
  obtain ⟨kvs, h1, h2⟩ := di_of hd
  have := h2.at i
  rw [hx] at this
  obtain ⟨t', e⟩ := this
  exact wpAny_getItem_of (knd := intKind PG c.w) i_key h1.mapOf e (k _ _ (H.toks _))
theorem t_di {value slice : Expr} (H : St c Z W s) (hd : ∃ o, s.heap.get? d = some o ∧ DI c.w kv o) (hx : iv kv i = some m) (k : ∀ t s', St c Z W s' → Q (.int m t) s')
    (hs : subscripted slice false (.ref d) (.int i t) = operate [.ref d, .int i t] (getItem (.ref d) (.int i t)) := by rfl) : wpAny (model PG c.w) A (subscriptTail value slice (.ref d) (.int i t)) Q E s := by
  obtain ⟨kvs, h1, h2⟩ := di_of hd
  exact t_item h1.typeIs slot_dict_getitem.lookup (d_getitem H hd hx k) hs
theorem d_setitem {QU : Unit → Shared → Prop} (H : St c Z W s) (hr : Rep d (DI c.w kv) (DI c.w (ist kv i m)) W W') (hz : kv.length ≤ 1000000) (k : ∀ s', St c Z W' s' → QU () s') : wpAny (model PG c.w) A (setItem (.ref d) (.int i t) (.int m u)) QU E s := by
  obtain ⟨kvs, h1, h2⟩ := di_of (H.get hr.mem)
  exact wpAny_setItem_pairs (knd := intKind PG c.w) i_key h1 (fun h' hd hs => k _ (H.turnS hr hs (of_di hd (h2.put i m u)) _)) (sz_of (by rw [h2.2.1]; exact hz))
theorem d_in (H : St c Z W s) (hn : (d == sysModules) = false) (hd : ∃ o, s.heap.get? d = some o ∧ DI c.w kv o) (k : ∀ s', St c Z W s' → Q (.bool (iv kv i).isSome) s') : wpAny (model PG c.w) A (compareOp .In (.int i t) (.ref d)) Q E s := by
  obtain ⟨kvs, h1, h2⟩ := di_of hd
  refine wpAny_in_of (knd := intKind PG c.w) i_key hn h1.mapOf ?_
  have := h2.at i
  have e : (valueAt kvs i).isSome = (iv kv i).isSome := by
    cases h : iv kv i with
    | none => rw [h] at this; rw [this]; rfl
    | some m => rw [h] at this; obtain ⟨t, e⟩ := this; rw [e]; rfl
  rw [e]
  exact k _ (H.toks _)
/-- d.get(i, m) -/
theorem d_get (H : St c Z W s) (hn : (d == sysModules) = false) (hd : ∃ o, s.heap.get? d = some o ∧ DI c.w kv o) (k : ∀ t s', St c Z W s' → Q (.int ((iv kv i).getD m) t) s') : wpAny (model PG c.w) A (call (.builtin "dict.get") [.ref d, .int i t, .int m u]) Q E s := by
  obtain ⟨kvs, h1, h2⟩ := di_of hd
  refine call_meetsIn PySem.F.slot_dict_get h1.typeIs PySem.F.entry_dict_get (PySem.F.args_dict_get_3 _ _ _) (meets_dict_get_default (intKind PG c.w) d i_key hn (.int m u)) ⟨_, h1.mapOf, ?_⟩
  have := h2.at i
  cases h : iv kv i with
  | none => rw [h] at this k; rw [this]; exact k _ _ (H.toks _)
  | some m' => rw [h] at this k; obtain ⟨t', e⟩ := this; rw [e]; exact k _ _ (H.toks _)
theorem q_dmeth {name : Str} {id : String} {pl : Sem Bool} {QM : Value × List Value → Shared → Prop} (hd : ∃ o, s.heap.get? d = some o ∧ DI c.w kv o) (slot : Slot "dict" name id) (hty : typeOf (.builtin id) = pure (.type "method_descriptor"))
    (h : QM (.builtin id, [.ref d]) s) : wpAny (model PG c.w) A (getMethod (.ref d) name pl) QM E s := by
  obtain ⟨kvs, h1, h2⟩ := di_of hd
  exact getMethod_builtin h1.typeIs PySem.F.plainAttrs_dict slot hty h1.mapOf.noDict h

/-- keys as ints -/
def KEYS (ks : List Int) (vs : List Value) : Prop := IntsAre vs ks
theorem ints_of : ∀ (kvs : List (Int × Value)) (kv : List (Int × Int)) (vs : List Value), kvs.map (·.1) = kv.map (·.1) → vs.length = kvs.length → (∀ (j : Nat) (v : Value), vs[j]? = some v → ∃ k x, kvs[j]? = some (k, x) ∧ (intKind PG c.w).is k v = true) → IntsAre vs (kv.map (·.1))
  | [], _, [], e, _, _ => by rw [← e]; exact .nil
  | [], _, _ :: _, _, h, _ => by simp at h
  | _ :: _, _, [], _, h, _ => by simp at h
  | (k, x) :: kvs, kv, v :: vs, e, h, hj => by
    obtain ⟨k', x', e1, e2⟩ := hj 0 v rfl
    obtain ⟨t, rfl⟩ := Value.isInt_shape e2
    simp at e1
    obtain ⟨rfl, rfl⟩ := e1
    cases kv with
    | nil => simp at e
    | cons q kv =>
      simp only [List.map_cons, List.cons.injEq] at e
      rw [List.map_cons, ← e.1]
      exact .cons _ _ (ints_of kvs kv vs e.2 (by simpa using h) fun j v hv => by
        obtain ⟨k, x, a, b⟩ := hj (j + 1) v (by simpa using hv)
        exact ⟨k, x, by simpa using a, b⟩)
/-- list(d) -/
theorem r_list_dict (H : St c Z W s) (hA : A.handled = none) (hn : (d == sysModules) = false) (hd : ∃ o, s.heap.get? d = some o ∧ DI c.w kv o) (hz : kv.length ≤ 1000000) (k : ∀ a vs s', IntsAre vs (kv.map (·.1)) → St c Z ((a, LIST vs) :: W) s' → Q (.ref a) s') :
    wpAny (model PG c.w) A (call (.type "list") [.ref d]) Q E s := by
  obtain ⟨kvs, h1, h2⟩ := di_of hd
  obtain ⟨ep, hat⟩ := h1.dictAt
  refine kdl_call (kdl_dict (knd := intKind PG c.w) (kvs := kvs) (ep := ep) hn) hA hat (sz_of (by rw [h2.2.1]; exact hz)) ?_
  intro h' tk acc n hk hl hi
  refine k _ acc.toList _ (ints_of (c := c) kvs kv acc.toList h2.1 (by rw [Array.length_toList]; exact hi.1) fun j v e => hi.2 j v (by rw [← Array.getElem?_toList]; exact e)) (H.new hk hl ⟨n, by simp⟩ _)
theorem c_dict (H : St c Z W s) (hA : A.handled = none) (hn : (d == sysModules) = false) (hd : ∃ o, s.heap.get? d = some o ∧ DI c.w kv o) (hz : kv.length ≤ 1000000) {R : List Value → Shared → Prop} {E : Value → Shared → Prop} (k : ∀ vs s', IntsAre vs (kv.map (·.1)) → St c Z W s' → R vs s') :
    wpAny (model PG c.w) A (collect (.ref d)) R E s := by
  obtain ⟨kvs, h1, h2⟩ := di_of hd
  obtain ⟨ep, hat⟩ := h1.dictAt
  refine kdu_collect (kdl_dict (knd := intKind PG c.w) (kvs := kvs) (ep := ep) hn) hA hat (sz_of (by rw [h2.2.1]; exact hz)) fun h' tk acc hk hi => ?_
  exact k acc.toList _ (ints_of (c := c) kvs kv acc.toList h2.1 (by rw [Array.length_toList]; exact hi.1) fun j v e => hi.2 j v (by rw [← Array.getElem?_toList]; exact e)) (H.heap hk _)
end
set_option maxRecDepth 100000
theorem miss_list_keys : typeLookup (.type "list") "keys" = pure none := am_miss_of_fast (by kernel_rfl)
theorem miss_tuple_keys : typeLookup (.type "tuple") "keys" = pure none := am_miss_of_fast (by kernel_rfl)

section
variable {prog : Program} {w : World} {A : Around} {E : Value → Shared → Prop} {s : Shared} {a : Addr} {xs : Array Value} {k : Nat} {Q : Option Value → Shared → Prop}
theorem keys_list (hx : s.heap.get? a = some { cls := .type "list", data := .seq xs k }) (hA : A.handled = none)
    (h : ∀ h' tk, (∀ b o, s.heap.get? b = some o → h'.get? b = some o) → Q none { s with heap := h', toks := tk }) : wpAny (model prog w) A (getAttr? (.ref a) "keys") Q E s := by
  obtain ⟨hp, g, d, tk, os⟩ := s
  have hT : ∀ tk', (⟨hp, g, d, tk', os⟩ : Shared).TypeIs (.ref a) "list" := fun _ => ⟨_, hx, rfl⟩
  have f1 := sub_AttributeError
  have f3 := PySem.F.slot_list_getattribute.lookup
  have f4 := PySem.F.slot_list_getattribute.bind (.ref a)
  have f5 := am_list_getattr_none
  unfold getAttr? getAttrBy? getAttrBy
  repeat (any_goals (first | assumption | exact hT _ | ((with_reducible show wpAny _ _ (call (Value.builtin "list.__getattribute__") _ _) _ _ _); refine call_meets PySem.F.slot_list_getattribute (hT _) am_entry_list_getattribute (PySem.F.args_list_getattribute_2 _ _) (meets_getattribute_miss_list a xs k #[] "keys" _ miss_list_keys (by decide +kernel)) ⟨hx, hA, fun h' tk' e hx' => ?_⟩) | wp_step))
  obtain ⟨t', u', he⟩ := hx'.there
  show wpAny _ _ (getattributeRaised _ _ _ _ _ _ _) _ _ _
  unfold getattributeRaised
  repeat (any_goals (first | assumption | wp_step))
  exact h _ _ hx'.keeps
theorem keys_tup (hx : s.heap.get? a = some { cls := .type "tuple", data := .seq xs k }) (hA : A.handled = none)
    (h : ∀ h' tk, (∀ b o, s.heap.get? b = some o → h'.get? b = some o) → Q none { s with heap := h', toks := tk }) : wpAny (model prog w) A (getAttr? (.ref a) "keys") Q E s := by
  obtain ⟨hp, g, d, tk, os⟩ := s
  have hT : ∀ tk', (⟨hp, g, d, tk', os⟩ : Shared).TypeIs (.ref a) "tuple" := fun _ => ⟨_, hx, rfl⟩
  have f1 := sub_AttributeError
  have f3 := PySem.F.slot_tuple_getattribute.lookup
  have f4 := PySem.F.slot_tuple_getattribute.bind (.ref a)
  have f5 := am_tuple_getattr_none
  unfold getAttr? getAttrBy? getAttrBy
  repeat (any_goals (first | assumption | exact hT _ | ((with_reducible show wpAny _ _ (call (Value.builtin "tuple.__getattribute__") _ _) _ _ _); refine call_meets PySem.F.slot_tuple_getattribute (hT _) am_entry_tuple_getattribute (PySem.F.args_tuple_getattribute_2 _ _) (meets_getattribute_miss_tuple a xs k #[] "keys" _ miss_tuple_keys (by decide +kernel)) ⟨hx, hA, fun h' tk' e hx' => ?_⟩) | wp_step))
  obtain ⟨t', u', he⟩ := hx'.there
  show wpAny _ _ (getattributeRaised _ _ _ _ _ _ _) _ _ _
  unfold getattributeRaised
  repeat (any_goals (first | assumption | wp_step))
  exact h _ _ hx'.keeps
end
theorem entry_upd : entryFor table "dict.update.loop" = some Builtin.«dict.update.loop» := entryFor_of_tree (by kernel_rfl)
theorem plain_upd : plainId "dict.update.loop" = true := by decide +kernel

/-- frozen pairs -/
def PRS (Z : List (Addr × Obj)) (xs : List Value) (kv : List (Int × Int)) : Prop :=
  xs.length = kv.length ∧ ∀ (j : Nat) v (q : Int × Int), xs[j]? = some v → kv[j]? = some q → ∃ p t u, v = .ref p ∧ Zs Z p (TUP [.int q.1 t, .int q.2 u])
theorem PRS.mono {Z Z' : List (Addr × Obj)} {xs : List Value} {kv : List (Int × Int)} (h : PRS Z xs kv) (hz : ∀ p ∈ Z, p ∈ Z') : PRS Z' xs kv :=
  ⟨h.1, fun j v q a b => let ⟨p, t, u, e, z⟩ := h.2 j v q a b; ⟨p, t, u, e, z.mono hz⟩⟩
theorem PRS.nil {Z : List (Addr × Obj)} : PRS Z [] [] := ⟨rfl, fun j v q h => by simp at h⟩
theorem PRS.snoc {Z : List (Addr × Obj)} {xs : List Value} {kv : List (Int × Int)} {p : Addr} {q : Int × Int} {t u : Tok} (h : PRS Z xs kv) (hz : Zs Z p (TUP [.int q.1 t, .int q.2 u])) : PRS Z (xs ++ [.ref p]) (kv ++ [q]) := by
  refine ⟨by simp [h.1], fun j v q' a b => ?_⟩
  rcases Nat.lt_trichotomy j xs.length with hj | hj | hj
  · rw [List.getElem?_append_left hj] at a
    rw [List.getElem?_append_left (by rw [← h.1]; exact hj)] at b
    exact h.2 j v q' a b
  · subst hj
    rw [List.getElem?_append_right (Nat.le_refl _)] at a
    rw [h.1, List.getElem?_append_right (Nat.le_refl _)] at b
    simp at a b
    subst a b
    exact ⟨p, t, u, rfl, hz⟩
  · rw [List.getElem?_eq_none (by simp; omega)] at a
    cases a
/-- what dict(pairs) gives -/
def dictOfPairs (kv : List (Int × Int)) : List (Int × Int) := kv.foldl (fun acc p => ist acc p.1 p.2) []

section
variable {c : Fix} {Z : List (Addr × Obj)} {W W' : List (Addr × (Obj → Prop))} {s : Shared} {A : Around} {E : Value → Shared → Prop}
theorem ist_len (kv : List (Int × Int)) (k m : Int) : (ist kv k m).length ≤ kv.length + 1 := by
  unfold ist; split <;> simp
theorem upd_loop {it d : Addr} {n : Nat} {S : Nat → Obj → Prop} {src : Heap → Prop} {xs : List Value} {kv : List (Int × Int)} {R : Result → Shared → Prop} (I : Itr c A.in1 it n S src (fun i v => xs[i]? = some v)) (hp : PRS Z xs kv) (hn : xs.length = n) (hz : n ≤ 1000000)
    (hsrc : ∀ s', St c Z W s' → src s'.heap)
    (hR : ∀ s', St c Z ((d, DI c.w (dictOfPairs kv)) :: W) s' → R (.ok (.ret .none)) s') :
    ∀ (k i : Nat) (s : Shared) (u : Tok), n - i = k → i ≤ n → St c Z ((it, S i) :: (d, DI c.w (dictOfPairs (kv.take i))) :: W) s →
    codeAny (model PG c.w) A (.builtin "dict.update.loop" ⟨[.ref d, .ref it, .int i u, .none], []⟩) R s := by
  intro k
  induction k with
  | zero =>
    intro i s u hk hi H
    have hin : i = n := by omega
    subst hin
    refine codeAny_builtin entry_upd ?_
    rw [Around.under_plainId plain_upd _]
    show wpAny _ A.in1 (pyNext (.ref it) >>= _) _ _ s
    refine wpAny_bind (I.done _ _ _ (H.get (.head _)) (hsrc _ H.tail.tail) fun h' t hk' => ?_)
    refine wpAny_bind (wpAny_pure ?_)
    refine wpAny_pure (hR _ ?_)
    have := H.lose hk' t
    rwa [List.take_of_length_le (by rw [← hp.1]; omega)] at this
  | succ k ih =>
    intro i s u hk hi H
    have hlt : i < n := by omega
    refine codeAny_builtin entry_upd ?_
    rw [Around.under_plainId plain_upd _]
    show wpAny _ A.in1 (pyNext (.ref it) >>= _) _ _ s
    refine wpAny_bind (I.item i s _ _ hlt (H.get (.head _)) (hsrc _ H.tail.tail) fun v h' t hv hit hk' => ?_)
    have H₁ : St c Z ((it, S (i + 1)) :: (d, DI c.w (dictOfPairs (kv.take i))) :: W) { s with heap := h', toks := t } := H.turn Rep.head hk' hit t
    have hlt' : i < kv.length := by rw [← hp.1]; omega
    obtain ⟨p, t1, t2, rfl, hz1⟩ := hp.2 i v kv[i] hv (List.getElem?_eq_getElem hlt')
    obtain ⟨np, hop⟩ := tup_at (H₁.zs hz1)
    dsimp only
    refine wpAny_bind (wpAny_holding (wpAny_bind ?_))
    have fin : wpAny (model PG c.w) A.in1 (Builtin.Dict.pairItems (.ref p)) (fun r s' => r = [.int kv[i].1 t1, .int kv[i].2 t2] ∧ s' = { s with heap := h', toks := t }) NoE { s with heap := h', toks := t } := by
      unfold Builtin.Dict.pairItems
      refine wpAny_bind (wpAny_typeOf ⟨_, hop, rfl⟩ ?_)
      rw [if_pos (by decide)]
      refine wpAny_bind (wpAny_seqItems hop rfl (wpAny_pure ⟨?_, rfl⟩))
      rfl
    refine wpAny_tryCatch (wpAny_mono fin ?_ fun _ _ e => e.elim)
    rintro r s' ⟨rfl, rfl⟩
    dsimp only
    refine wpAny_holding ?_
    obtain ⟨kvs, h1, h2⟩ := di_of (H₁.get (.tail _ (.head _)))
    have hlen : kvs.length ≤ 1000000 := by
      rw [h2.2.1]
      have : ∀ (l : List (Int × Int)) (acc : List (Int × Int)), (l.foldl (fun acc p => ist acc p.1 p.2) acc).length ≤ acc.length + l.length := by
        intro l
        induction l with
        | nil => intro acc; simp
        | cons q l ih2 => intro acc; have := ih2 (ist acc q.1 q.2); have := ist_len acc q.1 q.2; simp only [List.foldl_cons, List.length_cons]; omega
      have := this (kv.take i) []
      unfold dictOfPairs
      simp at this ⊢
      omega
    refine wpAny_dictSet_pairs (knd := intKind PG c.w) i_key h1 (fun h2' hd hs => ?_) (sz_of hlen)
    refine wpAny_pure ⟨plainId_quiet plain_upd _, ih (i + 1) _ 0 (by omega) hlt ?_⟩
    refine H₁.turnS (.tail .head) hs (of_di hd ?_) _
    have e : dictOfPairs (kv.take (i + 1)) = ist (dictOfPairs (kv.take i)) kv[i].1 kv[i].2 := by
      unfold dictOfPairs
      rw [List.take_add_one, List.getElem?_eq_getElem hlt', List.foldl_append]
      rfl
    rw [e]
    exact h2.put _ _ _
end
set_option maxRecDepth 100000
/-- there, live or frozen -/
def At (Z : List (Addr × Obj)) (W : List (Addr × (Obj → Prop))) (a : Addr) (P : Obj → Prop) : Prop := (a, P) ∈ W ∨ Zs Z a P
theorem St.at {c : Fix} {Z : List (Addr × Obj)} {W : List (Addr × (Obj → Prop))} {s : Shared} {a : Addr} {P : Obj → Prop} (H : St c Z W s) (h : At Z W a P) : ∃ o, s.heap.get? a = some o ∧ P o := h.elim H.get H.zs
theorem At.more {Z : List (Addr × Obj)} {W W' : List (Addr × (Obj → Prop))} {a : Addr} {P : Obj → Prop} (h : At Z W a P) : At Z (W' ++ W) a P := h.elim (fun q => .inl (List.mem_append_right _ q)) .inr
theorem St.atmod {c : Fix} {Z : List (Addr × Obj)} {W : List (Addr × (Obj → Prop))} {s : Shared} {a : Addr} {P : Obj → Prop} (H : St c Z W s) (h : At Z W a P) : (a == sysModules) = false := h.elim H.notmod H.notmodZ

section
variable {c : Fix} {Z : List (Addr × Obj)} {W W' : List (Addr × (Obj → Prop))} {s : Shared} {A : Around} {E : Value → Shared → Prop} {Q : Value → Shared → Prop} {l : Addr} {xs : List Value} {kv : List (Int × Int)}

theorem call_dict_seq {T : String} (hTd : (Value.type T != Value.type "dict") = true) {n : Nat} {S : Nat → Obj → Prop} {src : Heap → Prop} (H : St c Z W s) (hh : A.handled = none) (hT : ∀ s', St c Z W s' → s'.TypeIs (.ref l) T)
    (hkeys : ∀ {s' : Shared} {A' : Around} {E' : Value → Shared → Prop} {QQ : Option Value → Shared → Prop} {W'}, A'.handled = none → St c Z (W' ++ W) s' → (∀ s'', St c Z (W' ++ W) s'' → QQ none s'') → wpAny (model PG c.w) A' (getAttr? (.ref l) "keys") QQ E' s')
    (hiter : ∀ {s' : Shared} {A' : Around} {E' : Value → Shared → Prop} {QQ : Value → Shared → Prop} {W'}, A'.handled = none → St c Z (W' ++ W) s' → (∀ it s'', St c Z ((it, S 0) :: (W' ++ W)) s'' → QQ (.ref it) s'') → wpAny (model PG c.w) A' (pyIter (.ref l)) QQ E' s')
    (I : ∀ {it : Addr} {A' : Around}, A'.handled = none → Itr c A' it n S src (fun i v => xs[i]? = some v)) (hp : PRS Z xs kv) (hn : xs.length = n) (hz : n ≤ 1000000)
    (hsrc : ∀ s', St c Z W s' → src s'.heap)
    (k : ∀ a s', St c Z ((a, DI c.w (dictOfPairs kv)) :: W) s' → Q (.ref a) s') : wpAny (model PG c.w) A (call (.type "dict") [.ref l]) Q E s := by
  refine callType_codes (Q₁ := fun obj s₁ => obj = .ref s.heap.objs.size ∧ s₁ = { s with heap := s.heap.push { cls := .type "dict", data := .dict #[] } }) PySem.F.kt_called_dict (PySem.F.kt_typeCall_dict_1 _) PySem.F.entry_dict_init (kt_code_dict_new _ ⟨rfl, rfl⟩) ?_
  rintro obj s₁ ⟨rfl, rfl⟩
  have H₁ : St c Z ((s.heap.objs.size, DI c.w []) :: W) { s with heap := s.heap.push { cls := .type "dict", data := .dict #[] } } :=
    H.push (P := DI c.w []) (o := { cls := .type "dict", data := .dict #[] }) ⟨[], ⟨#[], 0, ⟨rfl, rfl, rfl⟩, rfl, by intro e he; simp at he, .nil, .nil⟩, .nil⟩ rfl _
  have hnew : (s.heap.push { cls := .type "dict", data := .dict #[] }).DictOf (intKind PG c.w) s.heap.objs.size [] := Heap.DictOf.new s.heap
  refine ⟨hnew.typeIs, PySem.F.args_dict_init_2 _ _, ?_⟩
  unfold Builtin.«dict.__init__»
  refine wpAny_bind ?_
  unfold Builtin.Dict.selfAndRest
  refine wpAny_bind (wpAny_notOrdered_dict hnew.typeIs ?_)
  show wpAny _ _ (pure (s.heap.objs.size, [Value.ref l])) _ _ _
  refine wpAny_pure ?_
  show wpAny _ _ (Builtin.Dict.updateFrom "dict.__init__" s.heap.objs.size (.ref l) [] .none) _ _ _
  unfold Builtin.Dict.updateFrom
  refine wpAny_bind (wpAny_typeOf (hT _ H₁.tail) ?_)
  rw [if_pos hTd]
  refine wpAny_bind ?_
  refine hkeys (W' := [(s.heap.objs.size, DI c.w [])]) hh H₁ fun s₂ H₂ => ?_
  simp only [Option.isNone_none, if_true]
  refine wpAny_bind (wpAny_rule ?_)
  refine wpAny_bind ?_
  refine hiter (W' := [(s.heap.objs.size, DI c.w [])]) hh H₂ fun it s₃ H₃ => ?_
  refine wpAny_pure ⟨plainId_quiet plain_upd _, ?_⟩
  refine upd_loop (A := A.in1) (I (A' := A.in1.in1) hh) hp hn hz hsrc (fun s' H' => ?_) n 0 _ 0 rfl (Nat.zero_le _) H₃
  exact ⟨rfl, k _ _ H'⟩
theorem r_dict_list (H : St c Z W s) (hh : A.handled = none) (hl : At Z W l (LIST xs)) (hp : PRS Z xs kv) (hz : xs.length ≤ 1000000) (k : ∀ a s', St c Z ((a, DI c.w (dictOfPairs kv)) :: W) s' → Q (.ref a) s') : wpAny (model PG c.w) A (call (.type "dict") [.ref l]) Q E s :=
  call_dict_seq (T := "list") (S := LITER l) (src := fun h => h.IsList l xs.toArray) (by decide) H hh (fun s' H' => (list_of (H'.at hl)).typeIs)
    (fun hh' H' kk => let ⟨n, ho⟩ := list_at (H'.at hl.more); keys_list ho hh' fun h' tk hk => kk _ (H'.heap hk tk))
    (fun hh' H' kk => it_list H' (list_of (H'.at hl.more)) kk) (fun hh' => itr_list hh') hp rfl hz (fun s' H' => list_of (H'.at hl)) k
theorem r_dict_tup (H : St c Z W s) (hh : A.handled = none) (hl : At Z W l (TUP xs)) (hp : PRS Z xs kv) (hz : xs.length ≤ 1000000) (k : ∀ a s', St c Z ((a, DI c.w (dictOfPairs kv)) :: W) s' → Q (.ref a) s') : wpAny (model PG c.w) A (call (.type "dict") [.ref l]) Q E s :=
  call_dict_seq (T := "tuple") (S := TITER l) (src := fun h => IsTup h l xs.toArray) (by decide) H hh (fun s' H' => (tup_of (H'.at hl)).typeIs)
    (fun hh' H' kk => let ⟨n, ho⟩ := tup_at (H'.at hl.more); keys_tup ho hh' fun h' tk hk => kk _ (H'.heap hk tk))
    (fun hh' H' kk => it_tup H' (tup_of (H'.at hl.more)) kk) (fun hh' => itr_tup hh') hp rfl hz (fun s' H' => tup_of (H'.at hl)) k
end
/-! the sorting tree, at distinct keys -/
section
variable {n : Nat} {K : Nat → Int} {I : Shared → Prop} {cmp : Nat → Nat → (Bool → Shared → Prop) → Shared → Prop}
def CmpOk (n : Nat) (K : Nat → Int) (I : Shared → Prop) (cmp : Nat → Nat → (Bool → Shared → Prop) → Shared → Prop) : Prop :=
  ∀ i j C s, i < n → j < n → I s → (∀ s', I s' → C (decide (K i < K j)) s') → cmp i j C s
def Perm (n : Nat) (p : Array Nat) : Prop := p.Perm (List.toArray (List.range n))
theorem Perm.size {p : Array Nat} (h : Perm n p) : p.size = n := by rw [h.size_eq]; simp
theorem Perm.lt {p : Array Nat} (h : Perm n p) {i : Nat} (hi : i < n) : p.getD i 0 < n := by
  have hs : i < p.size := by rw [h.size]; exact hi
  have e : p.getD i 0 = p[i] := by simp [Array.getD, hs]
  rw [e]
  have hm : p[i] ∈ (List.toArray (List.range n)) := h.mem_iff.mp (Array.getElem_mem hs)
  simpa using hm
theorem Perm.inj {p : Array Nat} (h : Perm n p) {i j : Nat} (hi : i < n) (hj : j < n) (e : p.getD i 0 = p.getD j 0) : i = j := by
  have hs : i < p.size := by rw [h.size]; exact hi
  have hs2 : j < p.size := by rw [h.size]; exact hj
  have e1 : p.getD i 0 = p[i] := by simp [Array.getD, hs]
  have e2 : p.getD j 0 = p[j] := by simp [Array.getD, hs2]
  rw [e1, e2] at e
  have hn : p.toList.Nodup := by
    have := (Array.perm_iff_toList_perm.mp h).nodup_iff
    rw [this]
    simpa using List.nodup_range
  exact (List.getElem_inj (i := i) (j := j) (h₀ := by simpa using hs) (h₁ := by simpa using hs2) hn).mp (by simpa using e)
def key (K : Nat → Int) (p : Array Nat) (i : Nat) : Int := K (p.getD i 0)
def Asc (K : Nat → Int) (p : Array Nat) (m : Nat) : Prop := ∀ i j, i ≤ j → j < m → key K p i ≤ key K p j
def Desc (K : Nat → Int) (p : Array Nat) (m : Nat) : Prop := ∀ i j, i < j → j < m → key K p j < key K p i
def Inj (n : Nat) (K : Nat → Int) : Prop := ∀ i j, i < n → j < n → K i = K j → i = j
theorem key_ne (hK : Inj n K) {p : Array Nat} (h : Perm n p) {i j : Nat} (hi : i < n) (hj : j < n) (hij : i ≠ j) : key K p i ≠ key K p j := fun e => hij (h.inj hi hj (hK _ _ (h.lt hi) (h.lt hj) e))
theorem getD_of {p q : Array Nat} {i j : Nat} (h : p[i]? = q[j]?) : p.getD i 0 = q.getD j 0 := by
  rw [Array.getD_eq_getD_getElem?, Array.getD_eq_getD_getElem?, h]
theorem rev_perm {p : Array Nat} (h : Perm n p) (i j : Nat) : Perm n (kas_rev p i j) := (mirror_perm _ _ _ _).trans h
theorem key_rev {p : Array Nat} (h : Perm n p) {m : Nat} (hm : m ≤ n) (k : Nat) : key K (kas_rev p 0 m) k = if k < m then key K p (m - 1 - k) else key K p k := by
  have e := getElem?_mirror_all (xs := p) (i := 0) (j := m) (by rw [h.size]; exact hm) k
  unfold key kas_rev
  by_cases hk : k < m
  · rw [if_pos hk]
    congr 1
    refine getD_of ?_
    rw [e]
    first
      | (rw [if_pos ⟨Nat.zero_le _, hk⟩]; congr 1; omega)
      | (simp [hk])
  · rw [if_neg hk]
    congr 1
    refine getD_of ?_
    rw [e]
    first
      | (rw [if_neg (fun q => hk q.2)])
      | (simp [hk])

theorem asc_spec (hc : CmpOk n K I cmp) {p : Array Nat} (h : Perm n p) : ∀ (f m : Nat) (s : Shared) (Q : Nat → Shared → Prop), 1 ≤ m → m + f ≤ n → Asc K p m → I s →
    (∀ m' s', m ≤ m' → m' ≤ m + f → Asc K p m' → (m' < m + f → key K p m' < key K p (m' - 1)) → I s' → Q m' s') → (kas_asc p f m).kasWp cmp Q s
  | 0, m, s, Q, h1, hz, ha, hi, hQ => hQ m s (Nat.le_refl _) (Nat.le_refl _) ha (fun h => absurd h (Nat.lt_irrefl _)) hi
  | f + 1, m, s, Q, h1, hz, ha, hi, hQ => by
    refine hc _ _ _ _ (h.lt (by omega)) (h.lt (by omega)) hi fun s' hi' => ?_
    by_cases hlt : K (p.getD m 0) < K (p.getD (m - 1) 0)
    · simp only [decide_eq_true hlt, if_true]
      exact hQ m s' (Nat.le_refl _) (by omega) ha (fun _ => hlt) hi'
    · simp only [decide_eq_false hlt, Bool.false_eq_true, if_false]
      refine asc_spec hc h f (m + 1) s' Q (by omega) (by omega) (fun i j hij hj => ?_) hi' fun m' s'' a b c d e => hQ m' s'' (by omega) (by omega) c (fun q => d (by omega)) e
      by_cases hjm : j < m
      · exact ha i j hij hjm
      · obtain rfl : j = m := by omega
        by_cases hie : i = j
        · subst hie; exact Int.le_refl _
        · exact Int.le_trans (ha i (j - 1) (by omega) (by omega)) (Int.not_lt.mp hlt)

theorem desc_spec (hc : CmpOk n K I cmp) (hK : Inj n K) {p : Array Nat} (h : Perm n p) : ∀ (f m : Nat) (s : Shared) (Q : Array Nat × Nat × Nat → Shared → Prop), 1 ≤ m → m + f ≤ n → Desc K p m → I s →
    (∀ m' s', m ≤ m' → m' ≤ m + f → Desc K p m' → I s' → Q (p, m', 0) s') → (kas_desc f p m 0).kasWp cmp Q s
  | 0, m, s, Q, h1, hz, ha, hi, hQ => hQ m s (Nat.le_refl _) (Nat.le_refl _) ha hi
  | f + 1, m, s, Q, h1, hz, ha, hi, hQ => by
    refine hc _ _ _ _ (h.lt (by omega)) (h.lt (by omega)) hi fun s' hi' => ?_
    by_cases hlt : K (p.getD m 0) < K (p.getD (m - 1) 0)
    · simp only [decide_eq_true hlt, if_true, gt_iff_lt, Nat.lt_irrefl, if_false]
      refine desc_spec hc hK h f (m + 1) s' Q (by omega) (by omega) (fun i j hij hj => ?_) hi' fun m' s'' a b c d => hQ m' s'' (by omega) (by omega) c d
      by_cases hjm : j < m
      · exact ha i j hij hjm
      · obtain rfl : j = m := by omega
        by_cases hie : i = j - 1
        · subst hie; exact hlt
        · exact Int.lt_trans hlt (ha i (j - 1) (by omega) (by omega))
    · simp only [decide_eq_false hlt, Bool.false_eq_true, if_false]
      refine hc _ _ _ _ (h.lt (by omega)) (h.lt (by omega)) hi' fun s'' hi'' => ?_
      have hne : K (p.getD m 0) ≠ K (p.getD (m - 1) 0) := key_ne hK h (by omega) (by omega) (by omega)
      have hgt : K (p.getD (m - 1) 0) < K (p.getD m 0) := by omega
      simp only [decide_eq_true hgt, if_true]
      exact hQ m s'' (Nat.le_refl _) (by omega) ha hi''

theorem tail3_spec (hc : CmpOk n K I cmp) {p : Array Nat} (h : Perm n p) {m : Nat} {s : Shared} {Q : Nat × Array Nat → Shared → Prop} (h1 : 1 ≤ m) (hm : m ≤ n) (hd : Desc K p m) (hi : I s)
    (hQ : ∀ m' p' s', 1 ≤ m' → m' ≤ n → Perm n p' → Asc K p' m' → I s' → Q (m', p') s') : (kas_tail3 m n p).kasWp cmp Q s := by
  unfold kas_tail3
  rw [KasT.kasWp_bind]
  refine asc_spec hc (rev_perm h 0 m) (n - m) m s _ h1 (by omega) (fun i j hij hj => ?_) hi fun m' s' a b c d e => hQ m' _ s' (by omega) (by omega) (rev_perm h 0 m) c e
  rw [key_rev h hm, key_rev h hm, if_pos (by omega), if_pos hj]
  by_cases e : i = j
  · subst e; exact Int.le_refl _
  · exact Int.le_of_lt (hd (m - 1 - j) (m - 1 - i) (by omega) (by omega))

theorem count_spec (hc : CmpOk n K I cmp) (hK : Inj n K) {p : Array Nat} (h : Perm n p) (hn : 1 ≤ n) {s : Shared} {Q : Nat × Array Nat → Shared → Prop} (hi : I s)
    (hQ : ∀ m' p' s', 1 ≤ m' → m' ≤ n → Perm n p' → Asc K p' m' → I s' → Q (m', p') s') : (kas_count n p).kasWp cmp Q s := by
  unfold kas_count
  rw [KasT.kasWp_bind]
  refine asc_spec hc h (n - 1) 1 s _ (Nat.le_refl _) (by omega) (fun i j hij hj => Int.le_of_eq (by rw [show i = j by omega])) hi fun m s' a b ha hd hi' => ?_
  by_cases he : m = n
  · subst he
    simp only [beq_self_eq_true, if_true]
    exact hQ _ _ _ a (Nat.le_refl _) h ha hi'
  · have he' : (m == n) = false := by simpa using he
    simp only [he', Bool.false_eq_true, if_false]
    by_cases h1 : m > 1
    · rw [if_pos h1]
      refine hc _ _ _ _ (h.lt (by omega)) (h.lt (by omega)) hi' fun s'' hi'' => ?_
      have hlt : K (p.getD 0 0) < K (p.getD (m - 1) 0) := by
        have := ha 0 (m - 1) (by omega) (by omega)
        have hne := key_ne hK h (i := 0) (j := m - 1) (by omega) (by omega) (by omega)
        unfold key at this hne
        omega
      simp only [decide_eq_true hlt, if_true]
      exact hQ _ _ _ a (by omega) h ha hi''
    · rw [if_neg h1]
      obtain rfl : m = 1 := by omega
      unfold kas_descPart
      rw [KasT.kasWp_bind]
      have hd0 : Desc K p 2 := fun i j hij hj => by
        obtain rfl : i = 0 := by omega
        obtain rfl : j = 1 := by omega
        exact hd (by omega)
      refine desc_spec hc hK h (n - 2) 2 s' _ (by omega) (by omega) hd0 hi' fun m' s'' a' b' hd' hi'' => ?_
      simp only [gt_iff_lt, Nat.lt_irrefl, if_false]
      exact tail3_spec hc h (by omega) (by omega) hd' hi'' hQ

theorem place_spec (hc : CmpOk n K I cmp) {p : Array Nat} (h : Perm n p) {k : Nat} (hk : k < n) (ha : Asc K p k) : ∀ (f l r : Nat) (s : Shared) (Q : Nat → Shared → Prop), l ≤ r → r ≤ k → r - l ≤ f → I s →
    (∀ i, i < l → key K p i ≤ key K p k) → (∀ i, r ≤ i → i < k → key K p k < key K p i) →
    (∀ l' s', l' ≤ k → (∀ i, i < l' → key K p i ≤ key K p k) → (∀ i, l' ≤ i → i < k → key K p k < key K p i) → I s' → Q l' s') → (kas_place p k f l r).kasWp cmp Q s
  | 0, l, r, s, Q, h1, h2, h3, hi, hlo, hhi, hQ => hQ l s (by omega) hlo (fun i a b => hhi i (by omega) b) hi
  | f + 1, l, r, s, Q, h1, h2, h3, hi, hlo, hhi, hQ => by
    unfold kas_place
    by_cases hge : l ≥ r
    · rw [if_pos hge]
      exact hQ l s (by omega) hlo (fun i a b => hhi i (by omega) b) hi
    · rw [if_neg hge]
      refine hc _ _ _ _ (h.lt hk) (h.lt (by omega)) hi fun s' hi' => ?_
      by_cases hlt : K (p.getD k 0) < K (p.getD ((l + r) / 2) 0)
      · simp only [decide_eq_true hlt, if_true]
        exact place_spec hc h hk ha f l ((l + r) / 2) s' Q (by omega) (by omega) (by omega) hi' hlo (fun i a b => Int.lt_of_lt_of_le hlt (ha _ _ a b)) hQ
      · simp only [decide_eq_false hlt, Bool.false_eq_true, if_false]
        exact place_spec hc h hk ha f ((l + r) / 2 + 1) r s' Q (by omega) (by omega) (by omega) hi' (fun i a => Int.le_trans (ha i ((l + r) / 2) (by omega) (by omega)) (Int.not_lt.mp hlt)) hhi hQ

theorem key_bubble {p : Array Nat} (h : Perm n p) {k l : Nat} (hk : k < n) (hl : l ≤ k) (i : Nat) : key K (bubble p k (k - l)) i = if i = l then key K p k else if l < i ∧ i ≤ k then key K p (i - 1) else key K p i := by
  have e := getElem?_bubble (xs := p) (src := k) (by rw [h.size]; exact hk) (k - l) (by omega) i
  rw [show k - (k - l) = l by omega] at e
  unfold key
  by_cases h1 : i = l
  · rw [if_pos h1] at e ⊢; rw [getD_of e]
  · rw [if_neg h1] at e ⊢
    by_cases h2 : l < i ∧ i ≤ k
    · rw [if_pos h2] at e ⊢; rw [getD_of e]
    · rw [if_neg h2] at e ⊢; rw [getD_of e]

theorem bin_spec (hc : CmpOk n K I cmp) : ∀ (f k : Nat) (p : Array Nat) (s : Shared) (Q : Array Nat → Shared → Prop), k + f = n → Perm n p → Asc K p k → I s →
    (∀ p' s', Perm n p' → Asc K p' n → I s' → Q p' s') → (kas_bin f p k).kasWp cmp Q s
  | 0, k, p, s, Q, hk, h, ha, hi, hQ => by
    obtain rfl : k = n := by omega
    exact hQ p s h ha hi
  | f + 1, k, p, s, Q, hk, h, ha, hi, hQ => by
    unfold kas_bin
    rw [KasT.kasWp_bind]
    refine place_spec hc h (by omega) ha k 0 k s _ (Nat.zero_le _) (Nat.le_refl _) (by omega) hi (fun i a => by omega) (fun i a b => by omega) fun l s' hl hlo hhi hi' => ?_
    refine bin_spec hc f (k + 1) _ s' Q (by omega) ((bubble_perm _ _ _).trans h) (fun i j hij hj => ?_) hi' hQ
    rw [key_bubble h (by omega) hl, key_bubble h (by omega) hl]
    repeat' split
    all_goals first
      | (exfalso; omega)
      | exact Int.le_refl _
      | exact hlo _ (by omega)
      | exact Int.le_of_lt (hhi _ (by omega) (by omega))
      | exact ha _ _ (by omega) (by omega)

theorem sort_spec (hc : CmpOk n K I cmp) (hK : Inj n K) (hn : 1 ≤ n) {s : Shared} {Q : Array Nat → Shared → Prop} (hi : I s) (hQ : ∀ p' s', Perm n p' → Asc K p' n → I s' → Q p' s') : (kas_sort n).kasWp cmp Q s := by
  unfold kas_sort
  rw [KasT.kasWp_bind]
  refine count_spec hc hK (Array.Perm.refl _) hn hi fun m p' s' h1 h2 hp ha hi' => ?_
  by_cases hlt : m < n
  · rw [if_pos hlt]
    have e : max m 1 = m := by omega
    show (kas_bin (n - max m 1) p' (max m 1)).kasWp cmp Q s'
    rw [e]
    exact bin_spec hc (n - m) m p' s' Q (by omega) hp ha hi' hQ
  · rw [if_neg hlt]
    obtain rfl : m = n := by omega
    exact hQ p' s' hp ha hi'
end
set_option maxRecDepth 100000
def EX (o : Obj) : Obj → Prop := fun o' => o' = o
section
variable {c : Fix} {Z : List (Addr × Obj)} {W W' : List (Addr × (Obj → Prop))} {s : Shared} {A : Around} {E : Value → Shared → Prop} {Q : Value → Shared → Prop} {l B : Addr} {vs xs : List Value} {kv : List (Int × Int)}

theorem PRS.pair {i : Nat} (hp : PRS Z vs kv) (hi : i < kv.length) : ∃ p t u, vs.getD i Value.none = .ref p ∧ Zs Z p (TUP [.int kv[i].1 t, .int kv[i].2 u]) := by
  have h1 : i < vs.length := by rw [hp.1]; exact hi
  obtain ⟨p, t, u, e, z⟩ := hp.2 i vs[i] kv[i] (List.getElem?_eq_getElem h1) (List.getElem?_eq_getElem hi)
  exact ⟨p, t, u, by rw [List.getD_eq_getElem?_getD, List.getElem?_eq_getElem h1]; exact e, z⟩
theorem PRS.tail {v : Value} {q : Int × Int} (hp : PRS Z (v :: vs) (q :: kv)) : PRS Z vs kv := ⟨by have := hp.1; simp at this; exact this, fun j v q a b => hp.2 (j + 1) v q (by simpa using a) (by simpa using b)⟩
theorem PRS.cons {p : Addr} {q : Int × Int} {t u : Tok} (hz : Zs Z p (TUP [.int q.1 t, .int q.2 u])) (hp : PRS Z vs kv) : PRS Z (.ref p :: vs) (q :: kv) :=
  ⟨by simp [hp.1], fun j v q' a b => by
    cases j with
    | zero => simp at a b; subst a b; exact ⟨p, t, u, rfl, hz⟩
    | succ j => exact hp.2 j v q' (by simpa using a) (by simpa using b)⟩
theorem PRS.tups : ∀ {vs : List Value} {kv : List (Int × Int)}, PRS Z vs kv → (∀ {p P}, Zs Z p P → ∃ o, s.heap.get? p = some o ∧ P o) → ∃ fs, KatTups s.heap vs fs ∧ fs.length = vs.length ∧ ∀ v ∈ fs, ∃ k t, v = Value.int k t
  | [], _, _, _ => ⟨[], .nil, rfl, fun _ h => nomatch h⟩
  | v :: vs, [], h, _ => by have := h.1; simp at this
  | v :: vs, q :: kv, h, g => by
    obtain ⟨fs, h1, h2, h3⟩ := h.tail.tups g
    obtain ⟨p, t, u, rfl, z⟩ := h.2 0 v q rfl rfl
    obtain ⟨n, ho⟩ := tup_at (g z)
    refine ⟨.int q.1 t :: fs, .cons ho rfl rfl rfl h1, by simp [h2], fun v hv => ?_⟩
    rcases List.mem_cons.mp hv with rfl | hv
    · exact ⟨_, _, rfl⟩
    · exact h3 v hv

theorem looks_int {M : Model} {h : Heap} {k : Int} {t : Tok} : Looks M h (typeOf (.int k t)) (.type "int") := Looks.of_pure rfl

theorem cmp_pairs {A : Around} (hp : PRS Z vs kv) (hn : (kv.map (·.1)).Nodup) : CmpOk kv.length (fun i => (kv.getD i (0, 0)).1) (St c Z W) (kas_ask PG c.w A (tuples' true) vs) := by
  intro i j C s hi hj H hC
  obtain ⟨p, t1, t2, e1, z1⟩ := hp.pair hi
  obtain ⟨q, t3, t4, e2, z2⟩ := hp.pair hj
  obtain ⟨n1, o1⟩ := tup_at (H.zs z1)
  obtain ⟨n2, o2⟩ := tup_at (H.zs z2)
  unfold kas_ask
  rw [e1, e2]
  refine kat_lt o1 rfl o2 rfl ?_
  have g1 : kv.getD i (0, 0) = kv[i] := by rw [List.getD_eq_getElem?_getD, List.getElem?_eq_getElem hi]; rfl
  have g2 : kv.getD j (0, 0) = kv[j] := by rw [List.getD_eq_getElem?_getD, List.getElem?_eq_getElem hj]; rfl
  simp only [g1, g2] at hC
  refine kat_cons (SeqAt.EqAt.int_int _ _ _ _ PG c.w _ _ ?_)
  by_cases he : kv[i].1 = kv[j].1
  · have hij : i = j := by
      refine (List.getElem_inj (i := i) (j := j) (h₀ := by simpa using hi) (h₁ := by simpa using hj) hn).mp ?_
      simpa using he
    subst hij
    rw [show (kv[i].1 == kv[i].1) = true from beq_self_eq_true _]
    refine kat_yes (kat_cons (SeqAt.EqAt.int_int _ _ _ _ PG c.w _ _ ?_))
    rw [show (kv[i].2 == kv[i].2) = true from beq_self_eq_true _]
    refine kat_yes (kat_nil ?_)
    have := hC s H
    simpa using this
  · rw [show (kv[i].1 == kv[j].1) = false from beq_eq_false_iff_ne.mpr he]
    refine kat_no ?_
    show wpAny _ _ (oneLt' true _ _) _ _ _
    exact oneLt_int (hC s H)

theorem sort_pairs {P : PySem.Fin → Shared → Prop} (H : St c Z ((B, LIST vs) :: W) s) (hp : PRS Z vs kv) (hn : (kv.map (·.1)).Nodup) (h1 : 1 ≤ vs.length) (h64 : vs.length < 64)
    (k : ∀ vs' kv' s', PRS Z vs' kv' → kv'.Perm kv → kv'.Pairwise (fun a b => a.1 < b.1) → St c Z ((B, LIST vs') :: W) s' → P (.done (.ret .none)) s') :
    wpAny (model PG c.w) A (Builtin.«list.sort» ⟨[.ref B], []⟩) P E s := by
  obtain ⟨n, ho⟩ := list_at (H.get (.head _))
  have ho : s.heap.get? B = some (seqObj "list" vs.toArray n) := ho
  have hz : vs.toArray.size ≤ sizeLine := by rw [List.size_toArray, sizeLine_eq]; omega
  obtain ⟨e1, ho1⟩ : ∃ e1, (s.heap.update B (Obj.mapSeq fun _ => (#[] : Array Value))).get? B = some (seqObj "list" #[] e1) := ⟨_, get?_update_seq ho fun _ => #[]⟩
  have H₁ : St c Z ((B, EX (seqObj "list" #[] e1)) :: W) { s with heap := s.heap.update B (Obj.mapSeq fun _ => (#[] : Array Value)) } := H.turnS (P' := EX (seqObj "list" #[] e1)) Rep.head (Heap.SameBut.update ..) ⟨_, ho1, rfl⟩ s.toks
  have H₃ : St c Z ((B, EX (seqObj "list" #[] e1)) :: W) { s with heap := ((s.heap.update B (Obj.mapSeq fun _ => (#[] : Array Value))).push (seqObj "tuple" vs.toArray 0)).push (seqObj "list" #[] 0) } :=
    H₁.heap (fun b o e => Heap.get?_push_of_some _ (Heap.get?_push_of_some _ e)) s.toks
  have e2 := sizeLine_eq
  have hlen : kv.length = vs.length := hp.1.symm
  rw [list_sort_plain]
  refine wpAny_bind (listItems_at ho rfl ?_)
  refine wpAny_bind (listUpdate_at ho rfl ?_ hz (Nat.zero_le _))
  refine wpAny_bind (seqEpoch_at ho1 rfl ?_)
  refine wpAny_bind (wpAny_newTuple ?_ (by show vs.length ≤ _; omega))
  refine wpAny_bind (wpAny_newList ?_ (Nat.zero_le _))
  refine wpAny_holding ?_
  show wpAny (model PG c.w) A _ P E { s with heap := ((s.heap.update B (Obj.mapSeq fun _ => (#[] : Array Value))).push (seqObj "tuple" vs.toArray 0)).push (seqObj "list" #[] 0) }
  generalize ({ s with heap := ((s.heap.update B (Obj.mapSeq fun _ => (#[] : Array Value))).push (seqObj "tuple" vs.toArray 0)).push (seqObj "list" #[] 0) } : Shared) = s₃ at H₃
  dsimp only
  -- the end, once the array stands
  have fin : ∀ (st' : SortSt) (s' : Shared) (vs' : List Value) (kv' : List (Int × Int)), (arrOf st').map (·.2) = vs'.toArray → failedOf st' = none → PRS Z vs' kv' → kv'.Perm kv → kv'.Pairwise (fun a b => a.1 < b.1) → St c Z ((B, EX (seqObj "list" #[] e1)) :: W) s' →
      wpAny (model PG c.w) A (do
        let sorted := (arrOf st').map (·.2)
        let touched := (← seqEpoch B) != e1
        Builtin.List.listUpdate (.ref B) fun _ => sorted
        if let some e := failedOf st' then rule "list.sort.comparison-raised"; throw e
        if touched then rule "list.sort.modified"; raiseError "ValueError" "list modified during sort"
        ret .none) P E s' := by
    intro st' s' vs' kv' ha hf hp' hperm hsort H'
    obtain ⟨o, hB, hex⟩ := H'.get (.head _)
    unfold EX at hex
    subst hex
    have hl' : vs'.length = vs.length := by rw [hp'.1, hperm.length_eq, hlen]
    dsimp only
    refine wpAny_bind (seqEpoch_at hB rfl ?_)
    rw [ha, hf]
    refine wpAny_bind (listUpdate_at hB rfl ?_ (Nat.zero_le _) (by rw [List.size_toArray]; omega))
    simp only [bne_self_eq_false, Bool.false_eq_true, if_false]
    refine wpAny_pure (k vs' kv' _ hp' hperm hsort ?_)
    refine H'.turnS Rep.head (Heap.SameBut.update ..) ⟨_, get?_update_seq hB fun _ => vs'.toArray, ?_⟩ s'.toks
    exact ⟨_, rfl⟩
  have hs2 : vs.toArray.size = vs.length := by simp
  by_cases h2 : vs.length < 2
  · rw [if_pos (by rw [hs2]; exact h2), if_pos (by rw [hs2]; exact h2)]
    refine wpAny_bind (wpAny_pure (wpAny_bind (wpAny_pure ?_)))
    obtain ⟨v, rfl⟩ : ∃ v, vs = [v] := List.length_eq_one_iff.mp (by omega)
    obtain ⟨q, rfl⟩ : ∃ q, kv = [q] := List.length_eq_one_iff.mp (by simpa using hlen)
    exact fin _ _ [v] [q] (by show Array.map (·.2) (#[v].zip #[v]) = #[v]; simp) rfl hp (List.Perm.refl _) (List.pairwise_singleton _ _) H₃
  · rw [if_neg (by rw [hs2]; exact h2), if_neg (by rw [hs2]; exact h2)]
    obtain ⟨fs, t1, t2, t3⟩ := hp.tups (s := s₃) (fun z => H₃.zs z)
    refine wpAny_bind (kat_kind (T := .type "int") t1 (by omega) (fun v hv => by obtain ⟨k, t, rfl⟩ := t3 v hv; exact looks_int) (by decide) ?_)
    rw [show (Value.type "int" != Value.type "tuple") = true by decide]
    have tree : (kas_sort vs.length).kasWp (kas_ask PG c.w A (tuples' true) vs) (fun p s' => Perm vs.length p ∧ Asc (fun i => (kv.getD i (0, 0)).1) p vs.length ∧ St c Z ((B, EX (seqObj "list" #[] e1)) :: W) s') s₃ := by
      rw [← hlen]
      refine sort_spec (I := St c Z ((B, EX (seqObj "list" #[] e1)) :: W)) (cmp_pairs hp hn) (fun i j hi hj e => ?_) (by omega) H₃ fun p s' a b d => ⟨a, b, d⟩
      refine (List.getElem_inj (i := i) (j := j) (h₀ := by simpa using hi) (h₁ := by simpa using hj) hn).mp ?_
      have g1 : kv.getD i (0, 0) = kv[i] := by rw [List.getD_eq_getElem?_getD, List.getElem?_eq_getElem hi]; rfl
      have g2 : kv.getD j (0, 0) = kv[j] := by rw [List.getD_eq_getElem?_getD, List.getElem?_eq_getElem hj]; rfl
      simp only [g1, g2] at e
      simpa using e
    refine wpAny_bind (wpAny_mono (kat_run (ks := vs) (Q := fun st' s' => ∃ p : Array Nat, arrOf st' = p.map (kas_item (vs.toArray.zip vs.toArray)) ∧ failedOf st' = none ∧ Perm vs.length p ∧ Asc (fun i => (kv.getD i (0, 0)).1) p vs.length ∧ St c Z ((B, EX (seqObj "list" #[] e1)) :: W) s')
      rfl (by omega) h64 (fun p' st' s' a1 a2 a3 a4 => ⟨p', a2, a3, a4⟩) tree) ?_ fun _ _ e => e)
    rintro ⟨⟨⟩, st'⟩ s' ⟨p, har, hf, hpm, hasc, H'⟩
    dsimp only
    have hpl : p.toList.Perm (List.range vs.length) := by have := Array.perm_iff_toList_perm.mp hpm; simpa using this
    have hlt : ∀ i ∈ p.toList, i < kv.length := fun i hi => by have := hpl.mem_iff.mp hi; rw [hlen]; simpa using this
    have hmap : (List.range kv.length).map (fun i => kv.getD i (0, 0)) = kv := by
      refine List.ext_getElem (by simp) fun i a b => ?_
      simp [b]
    refine fin st' s' (p.toList.map fun i => vs.getD i Value.none) (p.toList.map fun i => kv.getD i (0, 0)) (kat_snds rfl har) hf ⟨by simp, fun j v q a b => ?_⟩ ?_ ?_ H'
    · rw [List.getElem?_map] at a b
      cases e : p.toList[j]? with
      | none => rw [e] at a; cases a
      | some i =>
        rw [e] at a b
        have hi := hlt i (List.mem_of_getElem? e)
        obtain ⟨p', t, u, e1, z⟩ := hp.pair hi
        have g1 : kv.getD i (0, 0) = kv[i] := by rw [List.getD_eq_getElem?_getD, List.getElem?_eq_getElem hi]; rfl
        simp only [Option.map_some, Option.some.injEq] at a b
        subst a b
        rw [g1]
        exact ⟨p', t, u, e1, z⟩
    · have := hpl.map (fun i => kv.getD i (0, 0))
      rw [← hlen, hmap] at this
      exact this
    · rw [List.pairwise_map, List.pairwise_iff_getElem]
      intro i j hi hj hij
      have hs : p.size = vs.length := hpm.size
      have hj' : j < vs.length := by rw [← hs]; simpa using hj
      have hle := hasc i j (by omega) hj'
      have hne := key_ne (K := fun i => (kv.getD i (0, 0)).1) (fun i j hi hj e => ?_) hpm (i := i) (j := j) (by omega) hj' (by omega)
      · unfold key at hle hne
        have d1 : p.getD i 0 = p.toList[i] := by simp [Array.getD, show i < p.size by omega]
        have d2 : p.getD j 0 = p.toList[j] := by simp [Array.getD, show j < p.size by omega]
        simp only [d1, d2] at hle hne
        omega
      · rw [← hlen] at hi hj
        refine (List.getElem_inj (i := i) (j := j) (h₀ := by simpa using hi) (h₁ := by simpa using hj) hn).mp ?_
        have g1 : kv.getD i (0, 0) = kv[i] := by rw [List.getD_eq_getElem?_getD, List.getElem?_eq_getElem hi]; rfl
        have g2 : kv.getD j (0, 0) = kv[j] := by rw [List.getD_eq_getElem?_getD, List.getElem?_eq_getElem hj]; rfl
        simp only [g1, g2] at e
        simpa using e
end
set_option maxRecDepth 100000
def VIEW (d : Addr) (o : Obj) : Prop := o = { cls := .type "dict_items", data := .fields #[.ref d] }
section
variable {c : Fix} {Z : List (Addr × Obj)} {W W' : List (Addr × (Obj → Prop))} {s : Shared} {A : Around} {E : Value → Shared → Prop} {Q : Value → Shared → Prop} {l B d : Addr} {vs xs : List Value} {kv : List (Int × Int)}

theorem St.grow (H : St c Z W s) {h' : Heap} (hk : ∀ b o, s.heap.get? b = some o → h'.get? b = some o) (Zn : List (Addr × Obj)) (hz : ∀ p ∈ Zn, h'.get? p.1 = some p.2 ∧ s.heap.objs.size ≤ p.1) (t : Nat) :
    St c (Zn ++ Z) W { s with heap := h', toks := t } := by
  have H' := H.heap hk t
  refine ⟨H.ok, H'.keep, fun p hp => ?_, H'.live, fun p hp => ⟨(H.off p hp).1, fun q hq => ?_⟩, H.nodup, H.gens, H.drawn, H.os, H.big.1, fun p hp => ?_⟩
  · rcases List.mem_append.mp hp with hp | hp
    · exact (hz p hp).1
    · exact H'.frozen p hp
  · rcases List.mem_append.mp hq with hq | hq
    · obtain ⟨o, ho, _⟩ := H.live p hp
      have h1 := Heap.lt_size ho
      have h2 := (hz q hq).2
      exact fun e => Nat.lt_irrefl _ (Nat.lt_of_lt_of_le h1 (by rw [← e]; exact h2))
    · exact (H.off p hp).2 q hq
  · rcases List.mem_append.mp hp with hp | hp
    · obtain ⟨o, ho⟩ := H.ok.two
      have h1 := Heap.lt_size (H.keep _ _ ho)
      have h2 := (hz p hp).2
      exact fun e => by rw [e] at h2; exact absurd (Nat.lt_of_lt_of_le h1 h2) (by decide)
    · exact H.big.2 p hp

theorem r_items (H : St c Z W s) (hn : (d == sysModules) = false) (hd : ∃ o, s.heap.get? d = some o ∧ DI c.w kv o) (k : ∀ a s', St c Z ((a, VIEW d) :: W) s' → Q (.ref a) s') : wpAny (model PG c.w) A (call (.builtin "dict.items") [.ref d]) Q E s := by
  obtain ⟨kvs, h1, h2⟩ := di_of hd
  exact call_meetsIn PySem.F.slot_dict_items h1.typeIs PySem.F.entry_dict_items (PySem.F.args_dict_items_1 _) (meets_dict_items (intKind PG c.w) d hn) ⟨⟨kvs, h1⟩, k _ _ (H.push (P := VIEW d) rfl rfl _)⟩

theorem prs_of {w : World} {kvs : List (Int × Value)} {lo : Addr} {h : Heap} {as : List Addr} (hG : KdxG (intKind PG w) kvs lo h as) (hl : as.length = kvs.length) (hv : VI kvs kv) :
    PRS (as.filterMap (fun a => (h.get? a).map (a, ·)) ++ Z) (as.map Value.ref) kv := by
  refine ⟨by rw [List.length_map, hl, hv.2.1], fun j v q a b => ?_⟩
  rw [List.getElem?_map] at a
  cases e : as[j]? with
  | none => rw [e] at a; cases a
  | some p =>
    rw [e] at a
    simp only [Option.map_some, Option.some.injEq] at a
    subst a
    obtain ⟨key, k, x, e1, e2, e3⟩ := hG.pairs j p e
    obtain ⟨t, rfl⟩ := Value.isInt_shape e2
    obtain ⟨u, hu⟩ := hv.2.2 j (k, x) q e1 b
    have hk : k = q.1 := by
      have := congrArg (·[j]?) hv.1
      simp only [List.getElem?_map, e1, b, Option.map_some, Option.some.injEq] at this
      exact this
    dsimp only at hu
    subst hu hk
    exact ⟨p, t, u, rfl, _, List.mem_append_left _ (List.mem_filterMap.mpr ⟨p, List.mem_of_getElem? e, by rw [e3]; rfl⟩), 0, rfl⟩

/-- sorted(d.items()) -/
theorem r_sorted_items (H : St c Z W s) (hh : A.handled = none) (hv : ∃ o, s.heap.get? l = some o ∧ VIEW d o) (hd : ∃ o, s.heap.get? d = some o ∧ DI c.w kv o) (h1 : 1 ≤ kv.length) (h64 : kv.length < 64)
    (k : ∀ a Z' vs' kv' s', (∀ p ∈ Z, p ∈ Z') → PRS Z' vs' kv' → kv'.Perm kv → kv'.Pairwise (fun a b => a.1 < b.1) → St c Z' ((a, LIST vs') :: W) s' → Q (.ref a) s') : wpAny (model PG c.w) A (call (.builtin "sorted") [.ref l]) Q E s := by
  obtain ⟨kvs, g1, g2⟩ := di_of hd
  obtain ⟨ep, hat⟩ := g1.dictAt
  have hnod : (kv.map (·.1)).Nodup := let ⟨o, _, h⟩ := hd; h.nodup
  have e2 := sizeLine_eq
  refine call_function_entry kind_sorted plain_sorted entry_sorted (args_sorted1 _) ?_
  unfold Builtin.«sorted»
  refine wpAny_bind (m := checkCount "sorted" 1 1 _) (wpAny_pure ?_)
  have hvw : s.heap.IsItemsView l d := by obtain ⟨o, ho, e⟩ := hv; unfold VIEW at e; subst e; exact ⟨_, ho, rfl, rfl⟩
  refine wpAny_bind (kdx_collect (A := A.in1) (knd := intKind PG c.w) (kvs := kvs) (ep := ep) hh hvw hat (by rw [g2.2.1]; omega) fun h' tk as hk hl hG => ?_)
  have H₁ := H.grow hk (as.filterMap (fun a => (h'.get? a).map (a, ·))) (fun p hp => by
    obtain ⟨a, ha, e⟩ := List.mem_filterMap.mp hp
    cases e3 : h'.get? a with
    | none => rw [e3] at e; cases e
    | some o => rw [e3] at e; cases e; exact ⟨e3, Nat.le_of_lt (hG.above a ha)⟩) tk
  have hp := prs_of (Z := Z) hG hl g2
  have hlen : (as.map Value.ref).length = kv.length := hp.1
  refine wpAny_bind (wpAny_newList ?_ (by rw [hlen]; omega))
  have H₂ := H₁.push (P := LIST (as.map Value.ref)) (o := { cls := .type "list", data := .seq (as.map Value.ref).toArray }) ⟨0, rfl⟩ rfl tk
  refine wpAny_bind (wpAny_holding (wpAny_call_entry slot_list_sort ⟨_, Heap.get?_push_size _ rfl, rfl⟩ entry_list_sort ?_ (args_list_sort _)))
  refine sort_pairs H₂ hp hnod (by rw [hlen]; exact h1) (by rw [hlen]; exact h64) fun vs' kv' s' a b d H' => ?_
  exact ⟨_, rfl, wpAny_pure ⟨_, rfl, k _ _ vs' kv' s' (fun p hp => List.mem_append_right _ hp) a b d H'⟩⟩

theorem sortedHeap_at {h : Heap} {a : Addr} {n : Nat} {out : Array Value} (ho : h.get? a = some (seqObj "list" vs.toArray n)) :
    (∀ b o, b ≠ a → h.get? b = some o → (sortedHeap h a vs out).get? b = some o) ∧ ∃ o, (sortedHeap h a vs out).get? a = some o ∧ LIST out.toList o := by
  unfold sortedHeap
  obtain ⟨e1, ho1⟩ : ∃ e1, (h.update a (Obj.mapSeq fun _ => (#[] : Array Value))).get? a = some (seqObj "list" #[] e1) := ⟨_, get?_update_seq ho fun _ => #[]⟩
  have ho2 : (((h.update a (Obj.mapSeq fun _ => #[])).push (seqObj "tuple" vs.toArray 0)).push (seqObj "list" #[] 0)).get? a = some (seqObj "list" #[] e1) := Heap.get?_push_of_some _ (Heap.get?_push_of_some _ ho1)
  refine ⟨fun b o hb e => ?_, _, get?_update_seq ho2 fun _ => out, if out.size == (#[] : Array Value).size then e1 else e1 + 1, by unfold seqObj; rw [Array.toArray_toList]⟩
  · exact (Heap.get?_update_other _ _ (Ne.symm hb)).trans (Heap.get?_push_of_some _ (Heap.get?_push_of_some _ ((Heap.get?_update_other _ _ (Ne.symm hb)).trans e)))
/-- sorted(d) -/
theorem r_sorted_dict (H : St c Z W s) (hh : A.handled = none) (hn : (d == sysModules) = false) (hd : ∃ o, s.heap.get? d = some o ∧ DI c.w kv o) (h64 : kv.length < 64)
    (k : ∀ a vs' ks s', IntsAre vs' ks → ks.Perm (kv.map (·.1)) → ks.Pairwise (· ≤ ·) → St c Z ((a, LIST vs') :: W) s' → Q (.ref a) s') : wpAny (model PG c.w) A (call (.builtin "sorted") [.ref d]) Q E s := by
  have e2 := sizeLine_eq
  refine call_function_entry kind_sorted plain_sorted entry_sorted (args_sorted1 _) ?_
  unfold Builtin.«sorted»
  refine wpAny_bind (m := checkCount "sorted" 1 1 _) (wpAny_pure ?_)
  refine wpAny_bind (c_dict (A := A.in1) H hh hn hd (by omega) fun vs s₁ hi H₁ => ?_)
  have hlen : vs.length = kv.length := by have := hi.length; simpa using this
  refine wpAny_bind (wpAny_newList ?_ (by omega))
  have H₂ := H₁.push (P := LIST vs) (o := { cls := .type "list", data := .seq vs.toArray }) ⟨0, rfl⟩ rfl s₁.toks
  have ho : (s₁.heap.push { cls := .type "list", data := .seq vs.toArray }).get? s₁.heap.objs.size = some (seqObj "list" vs.toArray 0) := Heap.get?_push_size _ rfl
  refine wpAny_bind (wpAny_holding (wpAny_call_entry slot_list_sort ⟨_, ho, rfl⟩ entry_list_sort ?_ (args_list_sort _)))
  refine list_sort_tree (vs := vs) (n := 0) ho hi (by omega) fun out ns' a b d => ?_
  obtain ⟨f1, f2⟩ := sortedHeap_at (out := out) ho
  exact ⟨_, rfl, wpAny_pure ⟨_, rfl, k _ out.toList ns' _ a b d (H₂.turn Rep.head f1 f2 _)⟩⟩
end
set_option maxRecDepth 100000
section
variable {c : Fix} {Z : List (Addr × Obj)} {W W' : List (Addr × (Obj → Prop))} {s : Shared} {A : Around} {E : Value → Shared → Prop} {Q : Value → Shared → Prop} {l b : Addr} {vs us : List Value} {kv kv2 : List (Int × Int)} {ks : List Int}

theorem Am.line {d : Nat} (h : Am A d) : A.units < cLine := by have := h.un; unfold cLine; omega

theorem iv_mem {kv : List (Int × Int)} (hn : (kv.map (·.1)).Nodup) : ∀ {k m : Int}, (k, m) ∈ kv → iv kv k = some m := by
  induction kv with
  | nil => intro k m h; cases h
  | cons p kv ih =>
    intro k m h
    rw [List.map_cons, List.nodup_cons] at hn
    unfold iv
    rcases List.mem_cons.mp h with rfl | h
    · simp
    · have hne : p.1 ≠ k := fun e => hn.1 (List.mem_map.mpr ⟨(k, m), h, e.symm⟩)
      have := ih hn.2 h
      unfold iv at this
      simpa [hne] using this
theorem mem_of_iv {kv : List (Int × Int)} {k m : Int} (h : iv kv k = some m) : (k, m) ∈ kv := by
  unfold iv at h
  cases e : kv.find? fun p => p.1 = k with
  | none => rw [e] at h; cases h
  | some p =>
    rw [e] at h
    have h1 := List.mem_of_find?_eq_some e
    have h2 := List.find?_some e
    simp at h h2
    subst h2 h
    exact h1
theorem iv_some {kv : List (Int × Int)} {k : Int} (h : k ∈ kv.map (·.1)) : ∃ m, iv kv k = some m := by
  cases e : iv kv k with
  | some m => exact ⟨m, rfl⟩
  | none =>
    exfalso
    obtain ⟨p, hp, rfl⟩ := List.mem_map.mp h
    unfold iv at e
    simp at e
    exact e p.1 p.2 hp rfl
theorem same_len (h1 : (kv.map (·.1)).Nodup) (h2 : (kv2.map (·.1)).Nodup) (h : ∀ k, iv kv k = iv kv2 k) : kv.length = kv2.length := by
  have key : ∀ (a b : List (Int × Int)), (∀ k, iv a k = iv b k) → (a.map (·.1)).Nodup → ∀ k, k ∈ a.map (·.1) → k ∈ b.map (·.1) := fun a b e hn k hk => by
    obtain ⟨p, hp, rfl⟩ := List.mem_map.mp hk
    have := iv_mem hn (k := p.1) (m := p.2) hp
    rw [e] at this
    exact List.mem_map.mpr ⟨_, mem_of_iv this, rfl⟩
  have := (List.perm_ext_iff_of_nodup h1 h2).mpr fun k => ⟨key _ _ h h1 k, key _ _ (fun k => (h k).symm) h2 k⟩
  simpa using this.length_eq

theorem hits_of {A : Around} {kb : List (Int × Value)} : ∀ {kvs : List (Int × Value)} {kv : List (Int × Int)}, VI kvs kv → VI kb kv2 → (∀ p ∈ kv, iv kv2 p.1 = some p.2) → KeqHits A s kb kvs true
  | kvs, kv, h, hb, hm => by
    revert hm
    refine VI.ind (P := fun kvs kv => (∀ p ∈ kv, iv kv2 p.1 = some p.2) → KeqHits A s kb kvs true) (fun _ => .nil) (fun k v kvs m t kv e _ ih hm => ?_) kvs kv h
    subst e
    have h1 := hb.at k
    have h2 := hm (k, m) (List.mem_cons_self ..)
    dsimp only at h2
    rw [h2] at h1
    obtain ⟨u, hu⟩ := h1
    have := KeqHits.hit (A := A) (s := s) (b := true) hu (SeqAt.EqAt.int_int m t m u) (ih fun p hp => hm p (.tail _ hp))
    simpa using this
/-- equal dicts are not unequal -/
theorem r_ne_dict {d : Nat} (H : St c Z W s) (hA : Am A d) (hl : (l == sysModules) = false) (hb : (b == sysModules) = false) (h1 : ∃ o, s.heap.get? l = some o ∧ DI c.w kv o) (h2 : ∃ o, s.heap.get? b = some o ∧ DI c.w kv2 o) (he : ∀ k, iv kv k = iv kv2 k)
    (k : Q (.bool false) s) : wpAny (model PG c.w) A (compareOp .NotEq (.ref l) (.ref b)) Q E s := by
  have n1 : (kv.map (·.1)).Nodup := let ⟨o, _, h⟩ := h1; h.nodup
  have n2 : (kv2.map (·.1)).Nodup := let ⟨o, _, h⟩ := h2; h.nodup
  have hlen := same_len n1 n2 he
  obtain ⟨kvs, a1, a2⟩ := di_of h1
  obtain ⟨kvs2, b1, b2⟩ := di_of h2
  refine keq_ne (r := true) hl hb a1 b1 hA.line (fun _ => hits_of a2 b2 fun p hp => ?_) ?_
  · rw [← he]; exact iv_mem n1 hp
  · rw [a2.2.1, b2.2.1, hlen]; simpa using k
theorem ints_at {vs : List Value} {ks : List Int} (h : IntsAre vs ks) : ∀ {j : Nat} {k : Int}, ks[j]? = some k → ∃ t, vs[j]? = some (.int k t) := by
  induction h with
  | nil => intro j k e; simp at e
  | cons a t _ ih =>
    intro j k e
    cases j with
    | zero => simp at e; subst e; exact ⟨t, rfl⟩
    | succ j => simp at e; exact ih e
theorem r_eq_ints {d : Nat} (H : St c Z W s) (hA : Am A d) (h1 : ∃ o, s.heap.get? l = some o ∧ LIST vs o) (h2 : ∃ o, s.heap.get? b = some o ∧ LIST us o) (i1 : IntsAre vs ks) (i2 : IntsAre us ks) (k : Q (.bool true) s) :
    wpAny (model PG c.w) A (compareOp .Eq (.ref l) (.ref b)) Q E s := by
  have l1 := i1.length
  have l2 := i2.length
  have e0 : ((List.range vs.toArray.size).all fun _ => true) = true := List.all_eq_true.mpr fun _ _ => rfl
  refine PySem.SeqAt.eq_listAt (e := fun _ => true) (list_of h1) (list_of h2) (by simp; omega) hA.line (fun j a b => ?_) (by rw [e0]; exact k)
  have hj : j < ks.length := by simp at a; omega
  obtain ⟨t, e1⟩ := ints_at i1 (List.getElem?_eq_getElem hj)
  obtain ⟨u, e2⟩ := ints_at i2 (List.getElem?_eq_getElem hj)
  have g1 : vs.toArray[j] = Value.int ks[j] t := by
    simp only [List.getElem_toArray]
    exact Option.some.inj ((List.getElem?_eq_getElem (by simpa using a)).symm.trans e1)
  have g2 : us.toArray[j] = Value.int ks[j] u := by
    simp only [List.getElem_toArray]
    exact Option.some.inj ((List.getElem?_eq_getElem (by simpa using b)).symm.trans e2)
  rw [g1, g2]
  have := PySem.SeqAt.EqAt.int_int (A := A.in1) (s := s) ks[j] t ks[j] u
  simpa using this
theorem r_eq_len {d : Nat} (hA : Am A d) (h1 : ∃ o, s.heap.get? l = some o ∧ LIST vs o) (h2 : ∃ o, s.heap.get? b = some o ∧ LIST us o) (hne : vs.length ≠ us.length) (k : Q (.bool false) s) :
    wpAny (model PG c.w) A (compareOp .Eq (.ref l) (.ref b)) Q E s :=
  PySem.SeqAt.eq_list_lengthsAt (list_of h1) (list_of h2) (by simpa using hne) hA.line k
end
theorem At.cons {Z : List (Addr × Obj)} {W : List (Addr × (Obj → Prop))} {p} {a : Addr} {P : Obj → Prop} (h : At Z W a P) : At Z (p :: W) a P := h.elim (fun q => .inl (.tail _ q)) .inr
theorem At.head {Z : List (Addr × Obj)} {W : List (Addr × (Obj → Prop))} {a : Addr} {P : Obj → Prop} : At Z ((a, P) :: W) a P := .inl (.head _)
theorem At.mono {Z Z' : List (Addr × Obj)} {W W' : List (Addr × (Obj → Prop))} {a : Addr} {P : Obj → Prop} (h : At Z W a P) (hz : ∀ p ∈ Z, p ∈ Z') (hw : ∀ p ∈ W, p ∈ W') : At Z' W' a P := h.elim (fun q => .inl (hw _ q)) fun q => .inr (q.mono hz)
section
variable {c : Fix} {Z : List (Addr × Obj)} {W W' : List (Addr × (Obj → Prop))} {s : Shared} {A : Around} {E : Value → Shared → Prop} {Q : Value → Shared → Prop} {l b : Addr} {xs : List Value} {v : Value} {j : Nat} {t : Tok}
theorem t_nat {value slice : Expr} (hl : ∃ o, s.heap.get? l = some o ∧ LIST xs o) (hx : xs[j]? = some v) (hb : j < 1000000) (k : Q v s)
    (hs : subscripted slice false (.ref l) (.int (j : Int) t) = operate [.ref l, .int (j : Int) t] (getItem (.ref l) (.int (j : Int) t)) := by rfl) : wpAny (model PG c.w) A (subscriptTail value slice (.ref l) (.int (j : Int) t)) Q E s :=
  t_list hl (by omega) (by omega) (by simpa using hx) k hs
theorem t_natT {value slice : Expr} (hl : ∃ o, s.heap.get? l = some o ∧ TUP xs o) (hx : xs[j]? = some v) (hb : j < 1000000) (k : Q v s)
    (hs : subscripted slice false (.ref l) (.int (j : Int) t) = operate [.ref l, .int (j : Int) t] (getItem (.ref l) (.int (j : Int) t)) := by rfl) : wpAny (model PG c.w) A (subscriptTail value slice (.ref l) (.int (j : Int) t)) Q E s :=
  t_tup hl (by omega) (by omega) (by simpa using hx) k hs
end
theorem fill_N : PySem.Challenge.rw_on0165_01 = PySem.Challenge.rw_on0165_01 ∧ Kf = Kf := by
  k_fill
  exact ⟨rfl, rfl⟩
section
variable (w : World)
theorem a195_names : AttrOk w 195 (Str.ofString "names") := ⟨by k_is, by k_is, none, by k_is, by k_is⟩
theorem s195_names : SetOk w 195 (Str.ofString "names") := ⟨by k_is, by k_is, by k_is, by k_is⟩
theorem a195_rules : AttrOk w 195 (Str.ofString "rules") := ⟨by k_is, by k_is, none, by k_is, by k_is⟩
theorem s195_rules : SetOk w 195 (Str.ofString "rules") := ⟨by k_is, by k_is, by k_is, by k_is⟩
theorem a195_by_left : AttrOk w 195 (Str.ofString "by_left") := ⟨by k_is, by k_is, none, by k_is, by k_is⟩
theorem s195_by_left : SetOk w 195 (Str.ofString "by_left") := ⟨by k_is, by k_is, by k_is, by k_is⟩
theorem a195_offsets : AttrOk w 195 (Str.ofString "offsets") := ⟨by k_is, by k_is, none, by k_is, by k_is⟩
theorem s195_offsets : SetOk w 195 (Str.ofString "offsets") := ⟨by k_is, by k_is, by k_is, by k_is⟩
theorem a195_owners : AttrOk w 195 (Str.ofString "owners") := ⟨by k_is, by k_is, none, by k_is, by k_is⟩
theorem s195_owners : SetOk w 195 (Str.ofString "owners") := ⟨by k_is, by k_is, by k_is, by k_is⟩
theorem a195_terminal_count : AttrOk w 195 (Str.ofString "terminal_count") := ⟨by k_is, by k_is, none, by k_is, by k_is⟩
theorem s195_terminal_count : SetOk w 195 (Str.ofString "terminal_count") := ⟨by k_is, by k_is, by k_is, by k_is⟩
theorem a195_item_count : AttrOk w 195 (Str.ofString "item_count") := ⟨by k_is, by k_is, none, by k_is, by k_is⟩
theorem s195_item_count : SetOk w 195 (Str.ofString "item_count") := ⟨by k_is, by k_is, by k_is, by k_is⟩
theorem a195_levels : AttrOk w 195 (Str.ofString "levels") := ⟨by k_is, by k_is, none, by k_is, by k_is⟩
theorem s195_levels : SetOk w 195 (Str.ofString "levels") := ⟨by k_is, by k_is, by k_is, by k_is⟩
theorem a195_expect : AttrOk w 195 (Str.ofString "expect") := ⟨by k_is, by k_is, none, by k_is, by k_is⟩
theorem s195_expect : SetOk w 195 (Str.ofString "expect") := ⟨by k_is, by k_is, by k_is, by k_is⟩
theorem a195_start : AttrOk w 195 (Str.ofString "start") := ⟨by k_is, by k_is, none, by k_is, by k_is⟩
theorem s195_start : SetOk w 195 (Str.ofString "start") := ⟨by k_is, by k_is, by k_is, by k_is⟩
theorem a113_number : AttrOk w 113 (Str.ofString "number") := ⟨by k_is, by k_is, none, by k_is, by k_is⟩
theorem s113_number : SetOk w 113 (Str.ofString "number") := ⟨by k_is, by k_is, by k_is, by k_is⟩
theorem a113_left : AttrOk w 113 (Str.ofString "left") := ⟨by k_is, by k_is, none, by k_is, by k_is⟩
theorem s113_left : SetOk w 113 (Str.ofString "left") := ⟨by k_is, by k_is, by k_is, by k_is⟩
theorem a113_right : AttrOk w 113 (Str.ofString "right") := ⟨by k_is, by k_is, none, by k_is, by k_is⟩
theorem s113_right : SetOk w 113 (Str.ofString "right") := ⟨by k_is, by k_is, by k_is, by k_is⟩
theorem a113_level_of : AttrOk w 113 (Str.ofString "level_of") := ⟨by k_is, by k_is, none, by k_is, by k_is⟩
theorem s113_level_of : SetOk w 113 (Str.ofString "level_of") := ⟨by k_is, by k_is, by k_is, by k_is⟩
theorem a113_action : AttrOk w 113 (Str.ofString "action") := ⟨by k_is, by k_is, none, by k_is, by k_is⟩
theorem s113_action : SetOk w 113 (Str.ofString "action") := ⟨by k_is, by k_is, by k_is, by k_is⟩
theorem a113_line : AttrOk w 113 (Str.ofString "line") := ⟨by k_is, by k_is, none, by k_is, by k_is⟩
theorem s113_line : SetOk w 113 (Str.ofString "line") := ⟨by k_is, by k_is, by k_is, by k_is⟩
theorem a113_before : AttrOk w 113 (Str.ofString "before") := ⟨by k_is, by k_is, none, by k_is, by k_is⟩
theorem s113_before : SetOk w 113 (Str.ofString "before") := ⟨by k_is, by k_is, by k_is, by k_is⟩
theorem m195_symbol_count : MethOk w 195 (Str.ofString "symbol_count") 136 := ⟨by k_is, by k_is, by k_is⟩
theorem m195_is_terminal : MethOk w 195 (Str.ofString "is_terminal") 143 := ⟨by k_is, by k_is, by k_is⟩
theorem m195_rules_of : MethOk w 195 (Str.ofString "rules_of") 164 := ⟨by k_is, by k_is, by k_is⟩
theorem m195_item : MethOk w 195 (Str.ofString "item") 171 := ⟨by k_is, by k_is, by k_is⟩
theorem m195_rule_of : MethOk w 195 (Str.ofString "rule_of") 178 := ⟨by k_is, by k_is, by k_is⟩
theorem m195_dot_of : MethOk w 195 (Str.ofString "dot_of") 185 := ⟨by k_is, by k_is, by k_is⟩
theorem m195_after : MethOk w 195 (Str.ofString "after") 192 := ⟨by k_is, by k_is, by k_is⟩
theorem mk195 : MakeOk w 195 129 := ⟨by k_is, by k_is, by k_is⟩
theorem mk113 : MakeOk w 113 110 := ⟨by k_is, by k_is, by k_is⟩
theorem n_law : nsIn (Kf w.params) mainGlobals (Str.ofString "law") = some (some (.ref 251)) := by k_is
theorem kp_law : keepIn (Kf w.params) (.ref 251) = true := by k_is
theorem n_law_box : nsIn (Kf w.params) mainGlobals (Str.ofString "_law_box") = some (some (.ref 217)) := by k_is
theorem kp_law_box : keepIn (Kf w.params) (.ref 217) = true := by k_is
theorem n_law_pairs : nsIn (Kf w.params) mainGlobals (Str.ofString "_law_pairs") = some (some (.ref 229)) := by k_is
theorem kp_law_pairs : keepIn (Kf w.params) (.ref 229) = true := by k_is
theorem n_law_kernel : nsIn (Kf w.params) mainGlobals (Str.ofString "_law_kernel") = some (some (.ref 236)) := by k_is
theorem kp_law_kernel : keepIn (Kf w.params) (.ref 236) = true := by k_is
theorem n_law_joined : nsIn (Kf w.params) mainGlobals (Str.ofString "_law_joined") = some (some (.ref 241)) := by k_is
theorem kp_law_joined : keepIn (Kf w.params) (.ref 241) = true := by k_is
theorem n_law_is_closed : nsIn (Kf w.params) mainGlobals (Str.ofString "_law_is_closed") = some (some (.ref 246)) := by k_is
theorem kp_law_is_closed : keepIn (Kf w.params) (.ref 246) = true := by k_is
theorem n_plain_grammar : nsIn (Kf w.params) mainGlobals (Str.ofString "plain_grammar") = some (some (.ref 212)) := by k_is
theorem kp_plain_grammar : keepIn (Kf w.params) (.ref 212) = true := by k_is
theorem n_last_terminal : nsIn (Kf w.params) mainGlobals (Str.ofString "last_terminal") = some (some (.ref 206)) := by k_is
theorem kp_last_terminal : keepIn (Kf w.params) (.ref 206) = true := by k_is
theorem n_Grammar : nsIn (Kf w.params) mainGlobals (Str.ofString "Grammar") = some (some (.ref 195)) := by k_is
theorem kp_Grammar : keepIn (Kf w.params) (.ref 195) = true := by k_is
theorem n_Rule : nsIn (Kf w.params) mainGlobals (Str.ofString "Rule") = some (some (.ref 113)) := by k_is
theorem kp_Rule : keepIn (Kf w.params) (.ref 113) = true := by k_is
theorem n_closure_one : nsIn (Kf w.params) mainGlobals (Str.ofString "closure_one") = some (some (.ref 54)) := by k_is
theorem kp_closure_one : keepIn (Kf w.params) (.ref 54) = true := by k_is
theorem n_first_masks : nsIn (Kf w.params) mainGlobals (Str.ofString "first_masks") = some (some (.ref 47)) := by k_is
theorem kp_first_masks : keepIn (Kf w.params) (.ref 47) = true := by k_is
theorem n_first_of : nsIn (Kf w.params) mainGlobals (Str.ofString "first_of") = some (some (.ref 40)) := by k_is
theorem kp_first_of : keepIn (Kf w.params) (.ref 40) = true := by k_is
theorem n_nullable : nsIn (Kf w.params) mainGlobals (Str.ofString "nullable") = some (some (.ref 33)) := by k_is
theorem kp_nullable : keepIn (Kf w.params) (.ref 33) = true := by k_is
theorem n_spread : nsIn (Kf w.params) mainGlobals (Str.ofString "spread") = some (some (.ref 26)) := by k_is
theorem kp_spread : keepIn (Kf w.params) (.ref 26) = true := by k_is
theorem n_OWN_TERMINALS : nsIn (Kf w.params) mainGlobals (Str.ofString "OWN_TERMINALS") = some (some (.ref 95)) := by k_is
theorem kp_law_draw : keepIn (Kf w.params) (.ref 224) = true := by k_is
theorem kp_136 : keepIn (Kf w.params) (.ref 136) = true := by k_is
theorem kp_143 : keepIn (Kf w.params) (.ref 143) = true := by k_is
theorem kp_164 : keepIn (Kf w.params) (.ref 164) = true := by k_is
theorem kp_171 : keepIn (Kf w.params) (.ref 171) = true := by k_is
theorem kp_178 : keepIn (Kf w.params) (.ref 178) = true := by k_is
theorem kp_185 : keepIn (Kf w.params) (.ref 185) = true := by k_is
theorem kp_192 : keepIn (Kf w.params) (.ref 192) = true := by k_is
theorem n_list : nsIn (Kf w.params) mainGlobals (Str.ofString "list") = some none := by k_is
theorem n_dict : nsIn (Kf w.params) mainGlobals (Str.ofString "dict") = some none := by k_is
theorem n_tuple : nsIn (Kf w.params) mainGlobals (Str.ofString "tuple") = some none := by k_is
theorem n_sorted : nsIn (Kf w.params) mainGlobals (Str.ofString "sorted") = some none := by k_is
theorem n_range : nsIn (Kf w.params) mainGlobals (Str.ofString "range") = some none := by k_is
theorem n_int : nsIn (Kf w.params) mainGlobals (Str.ofString "int") = some none := by k_is
theorem n_abs : nsIn (Kf w.params) mainGlobals (Str.ofString "abs") = some none := by k_is
theorem n_END : nsIn (Kf w.params) mainGlobals (Str.ofString "END") = some (some (.int 0 313)) := by k_is
theorem n_own : (Kf w.params).lookup 95 = some { cls := .type "tuple", data := .seq #[.str (Str.ofString "$end") 315, .str (Str.ofString "error") 316, .str (Str.ofString "$undefined") 317] 0 } := by k_is
end
abbrev Rls := List (Int × List Int)
def offN (R : Rls) (i : Nat) : Nat := ((R.take i).map fun r => r.2.length + 1).sum
def nit (R : Rls) : Nat := (R.map fun r => r.2.length + 1).sum
def ownFrom : Nat → Rls → List Nat
  | _, [] => []
  | k, r :: rs => List.replicate (r.2.length + 1) k ++ ownFrom (k + 1) rs
def own (R : Rls) : List Nat := ownFrom 0 R
def rul (R : Rls) (it : Nat) : Nat := (own R).getD it 0
def right (R : Rls) (j : Nat) : List Int := (R.getD j (0, [])).2
def left (R : Rls) (j : Nat) : Int := (R.getD j (0, [])).1
def dot (R : Rls) (it : Nat) : Nat := it - offN R (rul R it)
def aft (R : Rls) (it : Nat) : Int := (right R (rul R it)).getD (dot R it) (-1)
def byl (R : Rls) (s : Int) : List Nat := (List.range R.length).filter fun j => left R j = s
def nats (l : List Nat) : List Int := l.map Int.ofNat

theorem ownFrom_len : ∀ (k : Nat) (R : Rls), (ownFrom k R).length = nit R
  | _, [] => rfl
  | k, r :: rs => by rw [ownFrom, List.length_append, List.length_replicate, ownFrom_len (k + 1) rs]; simp [nit]
theorem own_len (R : Rls) : (own R).length = nit R := ownFrom_len 0 R
/-- the item's place: its rule and its dot -/
theorem ownFrom_at : ∀ (k : Nat) (R : Rls) (it : Nat), it < nit R → ∃ j, (ownFrom k R)[it]? = some (k + j) ∧ j < R.length ∧ offN R j ≤ it ∧ it - offN R j ≤ (right R j).length
  | k, [], it, h => by simp [nit] at h
  | k, r :: rs, it, h => by
    by_cases hlt : it < r.2.length + 1
    · refine ⟨0, ?_, by simp, by simp [offN], ?_⟩
      · rw [ownFrom, List.getElem?_append_left (by simpa using hlt), List.getElem?_replicate, if_pos hlt]; rfl
      · simp [offN, right]; omega
    · have hn : nit (r :: rs) = r.2.length + 1 + nit rs := by simp [nit]
      obtain ⟨j, h1, h2, h3, h4⟩ := ownFrom_at (k + 1) rs (it - (r.2.length + 1)) (by omega)
      have ho : offN (r :: rs) (j + 1) = r.2.length + 1 + offN rs j := by simp [offN]
      refine ⟨j + 1, ?_, by simp; omega, by omega, ?_⟩
      · rw [ownFrom, List.getElem?_append_right (by simp; omega)]
        simp only [List.length_replicate]
        rw [h1]; congr 1; omega
      · rw [ho]
        have : right (r :: rs) (j + 1) = right rs j := by simp [right]
        rw [this]; omega
theorem item_at {R : Rls} {it : Nat} (h : it < nit R) : (own R)[it]? = some (rul R it) ∧ rul R it < R.length ∧ offN R (rul R it) ≤ it ∧ dot R it ≤ (right R (rul R it)).length := by
  obtain ⟨j, h1, h2, h3, h4⟩ := ownFrom_at 0 R it h
  rw [Nat.zero_add] at h1
  have e : rul R it = j := by unfold rul own; rw [List.getD_eq_getElem?_getD, h1]; rfl
  unfold dot
  rw [e]
  exact ⟨h1, h2, h3, h4⟩
theorem offN_lt : ∀ {R : Rls} {j d : Nat}, j < R.length → d ≤ (right R j).length → offN R j + d < nit R
  | [], j, d, h, _ => by simp at h
  | r :: rs, 0, d, h, hd => by simp [offN, nit, right] at *; omega
  | r :: rs, j + 1, d, h, hd => by
    have := offN_lt (R := rs) (j := j) (d := d) (by simpa using h) (by simpa [right] using hd)
    simp [offN, nit] at *
    omega
theorem ownFrom_off : ∀ (k : Nat) (R : Rls) (j d : Nat), j < R.length → d ≤ (right R j).length → (ownFrom k R)[offN R j + d]? = some (k + j)
  | k, [], j, d, h, _ => by simp at h
  | k, r :: rs, 0, d, h, hd => by
    have hd' : d < r.2.length + 1 := by simp [right] at hd; omega
    rw [show offN (r :: rs) 0 = 0 by simp [offN], Nat.zero_add, ownFrom, List.getElem?_append_left (by simpa using hd'), List.getElem?_replicate, if_pos hd']; rfl
  | k, r :: rs, j + 1, d, h, hd => by
    have ih := ownFrom_off (k + 1) rs j d (by simpa using h) (by simpa [right] using hd)
    rw [show offN (r :: rs) (j + 1) = r.2.length + 1 + offN rs j by simp [offN], ownFrom, List.getElem?_append_right (by simp; omega)]
    simp only [List.length_replicate]
    rw [show r.2.length + 1 + offN rs j + d - (r.2.length + 1) = offN rs j + d by omega, ih]
    congr 1; omega
theorem rul_off {R : Rls} {j d : Nat} (h : j < R.length) (hd : d ≤ (right R j).length) : rul R (offN R j + d) = j := by
  unfold rul own
  rw [List.getD_eq_getElem?_getD, ownFrom_off 0 R j d h hd, Nat.zero_add]; rfl
theorem dot_off {R : Rls} {j d : Nat} (h : j < R.length) (hd : d ≤ (right R j).length) : dot R (offN R j + d) = d := by
  unfold dot
  rw [rul_off h hd]; omega
theorem byl_lt {R : Rls} {s : Int} {j : Nat} (h : j ∈ byl R s) : j < R.length ∧ left R j = s := by
  unfold byl at h
  rw [List.mem_filter] at h
  simpa using h

/-- a rule, frozen -/
structure RULE (Z : List (Addr × Obj)) (a : Addr) (i : Nat) (l : Int) (r : List Int) (dx ta : Addr) (m : Str → Option Value) (t u : Tok) (xs : List Value) : Prop where
  inst : Zs Z a (INST 113 dx)
  dic : Zs Z dx (IDICT 20 m)
  number : m (Str.ofString "number") = some (.int i t)
  left : m (Str.ofString "left") = some (.int l u)
  right : m (Str.ofString "right") = some (.ref ta)
  tup : Zs Z ta (TUP xs)
  vals : IntsAre xs r
structure Well (R : Rls) (n tc : Nat) : Prop where
  lefts : ∀ r ∈ R, 0 ≤ r.1 ∧ r.1 < n
  rights : ∀ r ∈ R, ∀ x ∈ r.2, 0 ≤ x ∧ x < n
  rules : R.length ≤ 60
  items : nit R < 64
  syms : n ≤ 40
  terms : tc ≤ n
structure Gram (Z : List (Addr × Obj)) (ga : Addr) (R : Rls) (n tc : Nat) (dga na ra ba oa wa : Addr) (mg : Str → Option Value) (nv rv bv ov wv : List Value) (tt : Tok) : Prop where
  inst : Zs Z ga (INST 195 dga)
  dic : Zs Z dga (IDICT 20 mg)
  f_names : mg (Str.ofString "names") = some (.ref na)
  f_rules : mg (Str.ofString "rules") = some (.ref ra)
  f_by : mg (Str.ofString "by_left") = some (.ref ba)
  f_offs : mg (Str.ofString "offsets") = some (.ref oa)
  f_owners : mg (Str.ofString "owners") = some (.ref wa)
  f_tc : mg (Str.ofString "terminal_count") = some (.int tc tt)
  m1 : mg (Str.ofString "symbol_count") = none
  m2 : mg (Str.ofString "is_terminal") = none
  m3 : mg (Str.ofString "rules_of") = none
  m4 : mg (Str.ofString "item") = none
  m5 : mg (Str.ofString "rule_of") = none
  m6 : mg (Str.ofString "dot_of") = none
  m7 : mg (Str.ofString "after") = none
  names : Zs Z na (LIST nv)
  names_n : nv.length = n
  rules : Zs Z ra (LIST rv)
  rules_n : rv.length = R.length
  rule : ∀ i (h : i < R.length), ∃ a dx ta m t u xs, rv[i]? = some (.ref a) ∧ RULE Z a i R[i].1 R[i].2 dx ta m t u xs
  by_ : Zs Z ba (LIST bv)
  by_n : bv.length = n
  by_at : ∀ s : Nat, s < n → ∃ a xs, bv[s]? = some (.ref a) ∧ Zs Z a (LIST xs) ∧ IntsAre xs (nats (byl R s))
  offs : Zs Z oa (LIST ov)
  offs_v : IntsAre ov (nats ((List.range R.length).map (offN R)))
  owners : Zs Z wa (LIST wv)
  owners_v : IntsAre wv (nats (own R))
  well : Well R n tc
def GRAM (Z : List (Addr × Obj)) (ga : Addr) (R : Rls) (n tc : Nat) : Prop := ∃ dga na ra ba oa wa mg nv rv bv ov wv tt, Gram Z ga R n tc dga na ra ba oa wa mg nv rv bv ov wv tt
theorem RULE.mono {Z Z' : List (Addr × Obj)} {a : Addr} {i : Nat} {l : Int} {r : List Int} {dx ta : Addr} {m : Str → Option Value} {t u : Tok} {xs : List Value} (h : RULE Z a i l r dx ta m t u xs) (hz : ∀ p ∈ Z, p ∈ Z') : RULE Z' a i l r dx ta m t u xs :=
  ⟨h.inst.mono hz, h.dic.mono hz, h.number, h.left, h.right, h.tup.mono hz, h.vals⟩
theorem GRAM.mono {Z Z' : List (Addr × Obj)} {ga : Addr} {R : Rls} {n tc : Nat} (h : GRAM Z ga R n tc) (hz : ∀ p ∈ Z, p ∈ Z') : GRAM Z' ga R n tc := by
  obtain ⟨dga, na, ra, ba, oa, wa, mg, nv, rv, bv, ov, wv, tt, g⟩ := h
  refine ⟨dga, na, ra, ba, oa, wa, mg, nv, rv, bv, ov, wv, tt, ⟨g.inst.mono hz, g.dic.mono hz, g.f_names, g.f_rules, g.f_by, g.f_offs, g.f_owners, g.f_tc, g.m1, g.m2, g.m3, g.m4, g.m5, g.m6, g.m7, g.names.mono hz, g.names_n, g.rules.mono hz, g.rules_n, fun i h => ?_, g.by_.mono hz, g.by_n, fun s h => ?_, g.offs.mono hz, g.offs_v, g.owners.mono hz, g.owners_v, g.well⟩⟩
  · obtain ⟨a, dx, ta, m, t, u, xs, h1, h2⟩ := g.rule i h; exact ⟨a, dx, ta, m, t, u, xs, h1, h2.mono hz⟩
  · obtain ⟨a, xs, h1, h2, h3⟩ := g.by_at s h; exact ⟨a, xs, h1, h2.mono hz, h3⟩

theorem nats_get {vs : List Value} {l : List Nat} {j k : Nat} (h : IntsAre vs (nats l)) (e : l[j]? = some k) : ∃ t, vs[j]? = some (.int (k : Int) t) := ints_at h (by unfold nats; rw [List.getElem?_map, e]; rfl)
theorem nats_len {vs : List Value} {l : List Nat} (h : IntsAre vs (nats l)) : vs.length = l.length := by have := h.length; simpa [nats] using this
section
variable {c : Fix} {Z : List (Addr × Obj)} {W : List (Addr × (Obj → Prop))} {s : Shared} {A : Around} {E : Value → Shared → Prop} {env : Env} {Q : Flow → Shared → Prop} {rest body : List Stmt} {target : Expr} {l : Addr} {xs : List Value} {n : Nat} {kv : List (Int × Int)}
abbrev How (target : Expr) (V : Nat → Value → Prop) : Prop := (∀ it v, letOwnedTupleGo target (.ref it) v = pure ()) ∨ ((∃ elts k pos, target = .Tuple elts k pos) ∧ ∀ i v, V i v → ∃ T, v = .ref T)
abbrev Turn (c : Fix) (A : Around) (env : Env) (rest body : List Stmt) (target : Expr) (Q : Flow → Shared → Prop) (E : Value → Shared → Prop) (n : Nat) (V : Nat → Value → Prop) (Inv : Nat → List (Addr × Obj) → List (Addr × (Obj → Prop)) → Prop) (S : Nat → Obj → Prop) : Prop :=
  ∀ it i v Z' W' s', let QT := Turned c A env rest Q E (fun Z'' W'' => ∃ W₁, W'' = (it, S (i + 1)) :: W₁ ∧ Inv (i + 1) Z'' W₁)
    i < n → V i v → Inv i Z' W' → St c Z' ((it, S (i + 1)) :: W') s' → wpAny (model PG c.w) A (assign target env v) (fun _ s₂ => wpAny (model PG c.w) A (execs body env) QT NoE s₂) NoE s'
theorem how_of {V : Nat → Value → Prop} {it : Addr} (h : How target V) : (∀ v, letOwnedTupleGo target (.ref it) v = pure ()) ∨ ((∃ elts k pos, target = .Tuple elts k pos) ∧ ∀ i v, V i v → ∃ T, v = .ref T) := h.imp (fun q => q it) id

theorem fg_tup (Inv : Nat → List (Addr × Obj) → List (Addr × (Obj → Prop)) → Prop) (H : St c Z W s) (hh : A.handled = none) (h0 : Inv 0 Z W) (hsrc : ∀ i Z' W', i ≤ xs.length → Inv i Z' W' → At Z' W' l (TUP xs)) (how : How target (fun i v => xs[i]? = some v))
    (turn : Turn c A env rest body target Q E xs.length (fun i v => xs[i]? = some v) Inv (TITER l)) (done : ∀ Z' W' s', Inv xs.length Z' W' → St c Z' W' s' → wpAny (model PG c.w) A (execs rest env) Q E s') :
    ForGo (model PG c.w) A env target body rest Q E (.ref l) s :=
  it_tup H (tup_of (H.at (hsrc 0 _ _ (Nat.zero_le _) h0))) fun it s₂ H₂ =>
    for_it (itr_tup hh) Inv H₂ h0 (fun i Z' W' s' hi hJ H' => tup_of (H'.at (hsrc i _ _ hi hJ).cons)) (how_of how) (fun i v Z' W' s' => turn it i v Z' W' s') done
theorem fg_list (Inv : Nat → List (Addr × Obj) → List (Addr × (Obj → Prop)) → Prop) (H : St c Z W s) (hh : A.handled = none) (h0 : Inv 0 Z W) (hsrc : ∀ i Z' W', i ≤ xs.length → Inv i Z' W' → At Z' W' l (LIST xs)) (how : How target (fun i v => xs[i]? = some v))
    (turn : Turn c A env rest body target Q E xs.length (fun i v => xs[i]? = some v) Inv (LITER l)) (done : ∀ Z' W' s', Inv xs.length Z' W' → St c Z' W' s' → wpAny (model PG c.w) A (execs rest env) Q E s') :
    ForGo (model PG c.w) A env target body rest Q E (.ref l) s :=
  it_list H (list_of (H.at (hsrc 0 _ _ (Nat.zero_le _) h0))) fun it s₂ H₂ =>
    for_it (itr_list hh) Inv H₂ h0 (fun i Z' W' s' hi hJ H' => list_of (H'.at (hsrc i _ _ hi hJ).cons)) (how_of how) (fun i v Z' W' s' => turn it i v Z' W' s') done
theorem fg_range (Inv : Nat → List (Addr × Obj) → List (Addr × (Obj → Prop)) → Prop) (H : St c Z ((l, RANGE 0 n) :: W) s) (hh : A.handled = none) (hn : n ≤ 1000000) (h0 : Inv 0 Z W) (how : How target (fun i v => ∃ t, v = .int (i : Int) t))
    (turn : Turn c A env rest body target Q E n (fun i v => ∃ t, v = .int (i : Int) t) Inv (RITER 0 n)) (done : ∀ Z' W' s', Inv n Z' W' → St c Z' W' s' → wpAny (model PG c.w) A (execs rest env) Q E s') :
    ForGo (model PG c.w) A env target body rest Q E (.ref l) s :=
  it_range H (H.get (.head _)) hn fun it s₂ H₂ =>
    for_it (V := fun i v => ∃ t, v = .int (i : Int) t) (by have := itr_range (c := c) (A := A) (it := it) hh (a := 0) (n := n); simpa using this) Inv (H₂.swap.tail) h0 (fun i Z' W' s' hi hJ H' => trivial) (how_of how) (fun i v Z' W' s' => turn it i v Z' W' s') done
theorem vi_key {kvs : List (Int × Value)} {i : Nat} {k : Int} {x : Value} (hv : VI kvs kv) (e : kvs[i]? = some (k, x)) : (kv.map (·.1))[i]? = some k := by
  rw [← hv.1, List.getElem?_map, e]; rfl
/-- for k in d: the dict must stay as it is -/
theorem fg_keys (Inv : Nat → List (Addr × Obj) → List (Addr × (Obj → Prop)) → Prop) (H : St c Z W s) (hh : A.handled = none) (hd : Zs Z l (DI c.w kv)) (hmono : ∀ i Z' W', i ≤ kv.length → Inv i Z' W' → ∀ p ∈ Z, p ∈ Z') (h0 : Inv 0 Z W) (how : How target (fun i v => ∃ k t, (kv.map (·.1))[i]? = some k ∧ v = .int k t))
    (turn : ∀ S, Turn c A env rest body target Q E kv.length (fun i v => ∃ k t, (kv.map (·.1))[i]? = some k ∧ v = .int k t) Inv S) (done : ∀ Z' W' s', Inv kv.length Z' W' → St c Z' W' s' → wpAny (model PG c.w) A (execs rest env) Q E s') :
    ForGo (model PG c.w) A env target body rest Q E (.ref l) s := by
  obtain ⟨o, hz, kvs, hD, hv⟩ := hd
  obtain ⟨es, ep, q1, q2, q3, q4, q5⟩ := id hD
  have hat : ∀ {h : Heap}, h.get? l = some o → h.DictAt (intKind PG c.w) l kvs ep := fun hg => ⟨o, es, hg, q1, q2, q3, q4, q5⟩
  have hlen := hv.2.1
  refine it_keys H (H.notmodZ (P := DI c.w kv) ⟨o, hz, kvs, hD, hv⟩) (hat (H.frozen _ hz)) fun it s₂ H₂ => ?_
  have I := itr_keys (c := c) (A := A) (it := it) hh (d := l) (kvs := kvs) (ep := ep)
  rw [hlen] at I H₂
  exact for_it I Inv H₂ h0 (fun i Z' W' s' hi hJ H' => hat (H'.frozen _ (hmono i _ _ hi hJ _ hz)))
    ((how_of how).imp id fun q => ⟨q.1, fun i v ⟨k, x, t, e1, e2⟩ => q.2 i v ⟨k, t, vi_key hv e1, e2⟩⟩)
    (fun i v Z' W' s' hi ⟨k, x, t, e1, e2⟩ => turn _ it i v Z' W' s' hi ⟨k, t, vi_key hv e1, e2⟩) done
end
set_option maxRecDepth 100000
/-! conjunctions as one structure -/
structure A3 (a b c : Prop) : Prop where
  h1 : a
  h2 : b
  h3 : c
structure A4 (a b c d : Prop) : Prop where
  h1 : a
  h2 : b
  h3 : c
  h4 : d
structure A5 (a b c d e : Prop) : Prop where
  h1 : a
  h2 : b
  h3 : c
  h4 : d
  h5 : e
structure A6 (a b c d e f : Prop) : Prop where
  h1 : a
  h2 : b
  h3 : c
  h4 : d
  h5 : e
  h6 : f
structure A7 (a b c d e f g : Prop) : Prop where
  h1 : a
  h2 : b
  h3 : c
  h4 : d
  h5 : e
  h6 : f
  h7 : g
structure A8 (a b c d e f g h : Prop) : Prop where
  h1 : a
  h2 : b
  h3 : c
  h4 : d
  h5 : e
  h6 : f
  h7 : g
  h8 : h
structure A9 (a b c d e f g h i : Prop) : Prop where
  h1 : a
  h2 : b
  h3 : c
  h4 : d
  h5 : e
  h6 : f
  h7 : g
  h8 : h
  h9 : i
structure A10 (a b c d e f g h i j : Prop) : Prop where
  h1 : a
  h2 : b
  h3 : c
  h4 : d
  h5 : e
  h6 : f
  h7 : g
  h8 : h
  h9 : i
  h10 : j
structure A11 (a b c d e f g h i j k : Prop) : Prop where
  h1 : a
  h2 : b
  h3 : c
  h4 : d
  h5 : e
  h6 : f
  h7 : g
  h8 : h
  h9 : i
  h10 : j
  h11 : k
def SLICE (l u : Value) (o : Obj) : Prop := o = { cls := .type "slice", data := .fields #[l, u, .none] }
section
variable {c : Fix} {Z : List (Addr × Obj)} {W : List (Addr × (Obj → Prop))} {s : Shared} {A : Around} {E : Value → Shared → Prop} {env : Env} {Q : Value → Shared → Prop} {l sl t : Addr} {xs items : List Value} {n : Nat}
theorem r_unpack2 {QU : Unit → Shared → Prop} {e1 e2 : Expr} {k : Nat} {pos : Pos} {v1 v2 : Value} (H : St c Z W s) (hh : A.handled = none) (ht : At Z W t (TUP [v1, v2]))
    (kk : ∀ s', St c Z W s' → wpAny (model PG c.w) A (assign e1 env v1) (fun _ s₁ => wpAny (model PG c.w) A (assign e2 env v2) QU E s₁) E s')
    (he : assignEach [e1, e2] env = [(false, assign e1 env), (false, assign e2 env)] := by rfl) : wpAny (model PG c.w) A (assign (.Tuple [e1, e2] k pos) env (.ref t)) QU E s := by
  refine assign_Tuple_tuple hh (tup_of (H.at ht)) (by rw [he]; rfl) (by rw [he]; rfl) fun h' hk => ?_
  rw [he]
  have H' := H.heap (fun b o e => hk b o (Nat.ne_of_lt (Heap.lt_size e)) e) s.toks
  show wpAny _ _ (assignInOrder [assign e1 env, assign e2 env] [v1, v2]) _ _ _
  exact assignInOrder_cons (wpAny_mono (kk _ H') (fun _ s₁ h₁ => assignInOrder_cons (wpAny_mono h₁ (fun _ s₂ h₂ => assignInOrder_nil h₂) fun _ _ e => e)) fun _ _ e => e)
theorem e_slice_from {e : Expr} {p : Pos} (h : wpAny (model PG c.w) A (eval e env) (fun v s₁ => ∃ Z W, St c Z W s₁ ∧ ∀ a s', St c Z ((a, SLICE v .none) :: W) s' → Q (.ref a) s') E s) : wpAny (model PG c.w) A (eval (.Slice (some e) none none p) env) Q E s := by
  refine wpAny_Slice (wpAny_mono h (fun v s₁ ⟨Z, W, H, k⟩ => wpAny_pure (wpAny_pure (k _ _ (H.push (P := SLICE v .none) (o := { cls := .type "slice", data := .fields #[v, .none, .none] }) rfl rfl s₁.toks)))) fun _ _ e => e)
theorem e_slice_to {e : Expr} {p : Pos} (h : wpAny (model PG c.w) A (eval e env) (fun v s₁ => ∃ Z W, St c Z W s₁ ∧ ∀ a s', St c Z ((a, SLICE .none v) :: W) s' → Q (.ref a) s') E s) : wpAny (model PG c.w) A (eval (.Slice none (some e) none p) env) Q E s := by
  refine wpAny_Slice (wpAny_pure (wpAny_mono h (fun v s₁ ⟨Z, W, H, k⟩ => wpAny_pure (k _ _ (H.push (P := SLICE .none v) (o := { cls := .type "slice", data := .fields #[.none, v, .none] }) rfl rfl s₁.toks))) fun _ _ e => e))
/-- t[n:] of a tuple -/
theorem t_tup_from {value slice : Expr} {u : Tok} (H : St c Z W s) (ht : ∃ o, s.heap.get? t = some o ∧ TUP items o) (hs : ∃ o, s.heap.get? sl = some o ∧ SLICE (.int (n : Int) u) .none o) (h1 : 1 ≤ n) (hn : n ≤ items.length) (hz : items.length ≤ 1000000)
    (k : ∀ a s', St c Z ((a, TUP (items.drop n)) :: W) s' → Q (.ref a) s')
    (hsub : subscripted slice false (.ref t) (.ref sl) = operate [.ref sl, .ref t] (getItem (.ref t) (.ref sl)) := by rfl) : wpAny (model PG c.w) A (subscriptTail value slice (.ref t) (.ref sl)) Q E s := by
  obtain ⟨o, ho, e⟩ := hs
  unfold SLICE at e
  subst e
  refine t_slice (tup_of ht).typeIs slot_tuple_getitem.lookup (getItem_tuple_from (a := n) (tup_of ht) ⟨_, ho, rfl, rfl⟩ h1 (by simpa using hn) ?_ (sz_of (by simpa using hz))) hsub
  exact k _ _ (H.push (P := TUP (items.drop n)) (o := { cls := .type "tuple", data := .seq (items.drop n).toArray }) ⟨0, rfl⟩ rfl s.toks)
/-- l[:n] of a list -/
theorem t_list_to {value slice : Expr} {u : Tok} (H : St c Z W s) (ht : ∃ o, s.heap.get? t = some o ∧ LIST items o) (hs : ∃ o, s.heap.get? sl = some o ∧ SLICE .none (.int (n : Int) u) o) (hz : items.length ≤ 1000000)
    (k : ∀ a s', St c Z ((a, LIST (items.take n)) :: W) s' → Q (.ref a) s')
    (hsub : subscripted slice false (.ref t) (.ref sl) = operate [.ref sl, .ref t] (getItem (.ref t) (.ref sl)) := by rfl) : wpAny (model PG c.w) A (subscriptTail value slice (.ref t) (.ref sl)) Q E s := by
  obtain ⟨o, ho, e⟩ := hs
  unfold SLICE at e
  subst e
  refine t_slice (list_of ht).typeIs slot_list_getitem.lookup (wpAny_getItem_list_slice (lo := none) (hi := some (n : Int)) (st := none) (list_of ht) ⟨_, ho, rfl, rfl⟩ .none (.int _ _) .none (by simp) ?_ (sz_of (by simpa using hz))) hsub
  have e2 : slicePick items.toArray none (some (n : Int)) none = (items.take n).toArray := by
    by_cases h : n ≤ items.length
    · have := slicePick_upto items.toArray n (by simpa using h)
      simpa using this
    · have e3 : slicePick items.toArray none (some (n : Int)) none = slicePick items.toArray none (some (items.toArray.size : Int)) none := by
        have e4 : sliceBounds none (some (n : Int)) none items.toArray.size = sliceBounds none (some (items.toArray.size : Int)) none items.toArray.size := by
          simp only [sliceBounds, Option.getD_none, List.size_toArray]
          have h2 : ¬ ((n : Int) < 0) := by omega
          have h3 : ¬ ((items.length : Int) < 0) := by omega
          simp only [h2, h3, if_false, show (1 : Int) > 0 by decide, if_true]
          congr 1
          congr 1; omega
        unfold slicePick
        rw [e4]
      rw [e3, slicePick_upto items.toArray _ (Nat.le_refl _)]
      simp [List.take_of_length_le (Nat.le_of_lt (Nat.lt_of_not_le h))]
  rw [e2]
  exact k _ _ (H.push (P := LIST (items.take n)) (o := { cls := .type "list", data := .seq (items.take n).toArray }) ⟨0, rfl⟩ rfl s.toks)
theorem d_get_some {d : Addr} {kv : List (Int × Int)} {i m x : Int} {t u : Tok} (H : St c Z W s) (hn : (d == sysModules) = false) (hx : iv kv i = some x) (hd : ∃ o, s.heap.get? d = some o ∧ DI c.w kv o) (k : ∀ t s', St c Z W s' → Q (.int x t) s') : wpAny (model PG c.w) A (call (.builtin "dict.get") [.ref d, .int i t, .int m u]) Q E s :=
  d_get H hn hd fun t s' H' => by rw [hx]; exact k t s' H'
theorem d_get_none {d : Addr} {kv : List (Int × Int)} {i m : Int} {t u : Tok} (H : St c Z W s) (hn : (d == sysModules) = false) (hx : iv kv i = none) (hd : ∃ o, s.heap.get? d = some o ∧ DI c.w kv o) (k : ∀ t s', St c Z W s' → Q (.int m t) s') : wpAny (model PG c.w) A (call (.builtin "dict.get") [.ref d, .int i t, .int m u]) Q E s :=
  d_get H hn hd fun t s' H' => by rw [hx]; exact k t s' H'
theorem IntsAre.drop {vs : List Value} {ns : List Int} (h : IntsAre vs ns) : ∀ k, IntsAre (vs.drop k) (ns.drop k) := by
  induction h with
  | nil => intro k; simp; exact .nil
  | cons a t r ih =>
    intro k
    cases k with
    | zero => exact .cons a t r
    | succ k => exact ih k
theorem IntsAre.take {vs : List Value} {ns : List Int} (h : IntsAre vs ns) : ∀ k, IntsAre (vs.take k) (ns.take k) := by
  induction h with
  | nil => intro k; simp; exact .nil
  | cons a t r ih =>
    intro k
    cases k with
    | zero => exact .nil
    | succ k => exact .cons a t (ih k)
theorem IntsAre.snoc {vs : List Value} {ns : List Int} (h : IntsAre vs ns) (a : Int) (t : Tok) : IntsAre (vs ++ [.int a t]) (ns ++ [a]) := by
  induction h with
  | nil => exact .cons a t .nil
  | cons b u r ih => exact .cons b u ih
/-- calls: what stands at the top; a method of an own class -/
theorem c_topN {pos : Pos} {f : Value} {e : Expr} {rest : List Expr} (hk : keepIn (Kf c.w.params) f = true)
    (h : wpAny (model PG c.w) A (spliced (backTo pos (starEach (e :: rest) env))) (fun vs s₁ => (∃ Z W, St c Z W s₁) ∧ wpAny (model PG c.w) A (call f vs) Q E s₁) E s)
    (he : starEach (e :: rest) env = (false, eval e env) :: starEach rest env := by rfl) (hplain : (backTo pos (starEach rest env)).any (·.1) = false := by rfl) :
    wpAny (model PG c.w) A (callWith pos f [] (backTo pos (starEach (e :: rest) env)) []) Q E s := c_top hk h he hplain
theorem c_topM {pos : Pos} {f x : Value} {e : Expr} {rest : List Expr} (hk : keepIn (Kf c.w.params) f = true)
    (h : wpAny (model PG c.w) A (spliced (backTo pos (starEach (e :: rest) env))) (fun vs s₁ => (∃ Z W, St c Z W s₁) ∧ wpAny (model PG c.w) A (call f (x :: vs)) Q E s₁) E s)
    (he : starEach (e :: rest) env = (false, eval e env) :: starEach rest env := by rfl) (hplain : (backTo pos (starEach rest env)).any (·.1) = false := by rfl) :
    wpAny (model PG c.w) A (callWith pos f [x] (backTo pos (starEach (e :: rest) env)) []) Q E s := c_top hk h he hplain
theorem c_topM0 {pos : Pos} {f x : Value} (H : St c Z W s) (hk : keepIn (Kf c.w.params) f = true) (h : wpAny (model PG c.w) A (call f [x]) Q E s) :
    wpAny (model PG c.w) A (callWith pos f [x] (backTo pos (starEach [] env)) []) Q E s := c_top0 H hk h
/-- a method of a list or dict, with arguments -/
theorem c_meth {pos : Pos} {id : String} {x : Value} {e : Expr} {rest : List Expr}
    (h : wpAny (model PG c.w) A (spliced (backTo pos (starEach (e :: rest) env))) (fun vs s₁ => wpAny (model PG c.w) A (call (.builtin id) (x :: vs)) Q E s₁) E s)
    (he : starEach (e :: rest) env = (false, eval e env) :: starEach rest env := by rfl) (hplain : (backTo pos (starEach rest env)).any (·.1) = false := by rfl) :
    wpAny (model PG c.w) A (callWith pos (.builtin id) [x] (backTo pos (starEach (e :: rest) env)) []) Q E s := callWith_method1 h he hplain
theorem c_meth0 {pos : Pos} {id : String} {x : Value} (h : wpAny (model PG c.w) A (call (.builtin id) [x]) Q E s) : wpAny (model PG c.w) A (callWith pos (.builtin id) [x] (backTo pos (starEach [] env)) []) Q E s := callWith_method0 h
end
section
variable {M : Model} {A : Around} {E : Value → Shared → Prop} {s : Shared} {env : Env} {Q : Flow → Shared → Prop} {rest : List Stmt} {pos : Pos}
/-- an if both of whose branches run on -/
theorem x_if_cut {test : Expr} {body orelse : List Stmt} (J : Shared → Prop) (h : wpAny M A (isTrue test env (eval test env)) (fun b s₂ => if b = true then wpAny M A (execs body env) (fun f s' => f = .next ∧ J s') E s₂ else wpAny M A (execs orelse env) (fun f s' => f = .next ∧ J s') E s₂) E s)
    (hr : ∀ s', J s' → wpAny M A (execs rest env) Q E s') : wpAny M A (execs (.If test body orelse pos :: rest) env) Q E s := by
  refine x_if (wpAny_mono h (fun b s₂ h₂ => ?_) fun _ _ e => e)
  cases b
  · simp only [Bool.false_eq_true, if_false] at h₂ ⊢
    exact wpAny_mono h₂ (fun f s' ⟨e, hj⟩ => by subst e; exact hr _ hj) fun _ _ e => e
  · simp only [if_true] at h₂ ⊢
    exact wpAny_mono h₂ (fun f s' ⟨e, hj⟩ => by subst e; exact hr _ hj) fun _ _ e => e
end
/-- a family of live lists -/
def fam (us : List (Addr × List Value)) : List (Addr × (Obj → Prop)) := us.map fun p => (p.1, LIST p.2)
theorem Rep.left {a : Addr} {P P' : Obj → Prop} {W W' V : List (Addr × (Obj → Prop))} (h : Rep a P P' W W') : Rep a P P' (W ++ V) (W' ++ V) := by
  induction h with
  | head => exact .head
  | tail _ ih => exact .tail ih
theorem Rep.right {a : Addr} {P P' : Obj → Prop} {V W W' : List (Addr × (Obj → Prop))} (h : Rep a P P' W W') : Rep a P P' (V ++ W) (V ++ W') := by
  induction V with
  | nil => exact h
  | cons p V ih => exact .tail ih
theorem fam_rep {a : Addr} {xs ys : List Value} : ∀ {us : List (Addr × List Value)} {i : Nat}, us[i]? = some (a, xs) → Rep a (LIST xs) (LIST ys) (fam us) (fam (us.set i (a, ys)))
  | [], i, h => by simp at h
  | p :: us, 0, h => by simp at h; subst h; exact .head
  | p :: us, i + 1, h => .tail (fam_rep (us := us) (by simpa using h))
theorem fam_mem {us : List (Addr × List Value)} {a : Addr} {xs : List Value} {i : Nat} (h : us[i]? = some (a, xs)) : (a, LIST xs) ∈ fam us := List.mem_map.mpr ⟨_, List.mem_of_getElem? h, rfl⟩
theorem St.to4 {c : Fix} {Z : List (Addr × Obj)} {x C D it} {U V : List (Addr × (Obj → Prop))} {s : Shared} (H : St c Z (x :: C :: D :: it :: (U ++ V)) s) : St c Z (C :: D :: it :: ((U ++ [x]) ++ V)) s := by
  have h : (C :: D :: it :: U ++ x :: V).Perm (x :: (C :: D :: it :: U ++ V)) := List.perm_middle
  have := H.perm h.symm
  simpa using this
theorem St.back {c : Fix} {Z : List (Addr × Obj)} {p : Addr × (Obj → Prop)} {U X V : List (Addr × (Obj → Prop))} {s : Shared} (H : St c Z (p :: (U ++ (X ++ V))) s) : St c Z (p :: (X ++ (U ++ V))) s := by
  have h : (U ++ (X ++ V)).Perm (X ++ (U ++ V)) := by
    rw [← List.append_assoc, ← List.append_assoc]
    exact List.perm_append_comm.append_right V
  exact H.perm (h.cons p)
theorem fam_append (us vs : List (Addr × List Value)) : fam (us ++ vs) = fam us ++ fam vs := by unfold fam; rw [List.map_append]
/-- lists of users of the symbols -/
def USR (R : Rls) (n B : Nat) (us : List (Addr × List Value)) : Prop := us.length = n ∧ ∀ p ∈ us, ∃ l, IntsAre p.2 (nats l) ∧ (∀ j ∈ l, j < R.length) ∧ l.length ≤ B
theorem USR.more {R : Rls} {n B B' : Nat} {us : List (Addr × List Value)} (h : USR R n B us) (hb : B ≤ B') : USR R n B' us := ⟨h.1, fun p hp => let ⟨l, a, b, d⟩ := h.2 p hp; ⟨l, a, b, Nat.le_trans d hb⟩⟩
theorem USR.push {R : Rls} {n B : Nat} {us : List (Addr × List Value)} (h : USR R n B us) {i : Nat} {a : Addr} {xs : List Value} (hi : us[i]? = some (a, xs)) {j : Nat} {t : Tok} (hj : j < R.length) : USR R n (B + 1) (us.set i (a, xs ++ [.int (j : Int) t])) := by
  refine ⟨by rw [List.length_set]; exact h.1, fun p hp => ?_⟩
  rcases List.mem_or_eq_of_mem_set hp with hp | rfl
  · exact (h.more (Nat.le_succ B)).2 p hp
  · obtain ⟨l, q1, q2, q3⟩ := h.2 _ (List.mem_of_getElem? hi)
    refine ⟨l ++ [j], ?_, ?_, ?_⟩
    · unfold nats; rw [List.map_append]; exact IntsAre.snoc q1 _ _
    · intro x hx
      rcases List.mem_append.mp hx with hx | hx
      · exact q2 x hx
      · rw [List.mem_singleton.mp hx]; exact hj
    · rw [List.length_append, List.length_singleton]; omega
theorem fst_set {us : List (Addr × List Value)} {i : Nat} {a : Addr} {xs ys : List Value} (hi : us[i]? = some (a, xs)) : (us.set i (a, ys)).map (fun p => Value.ref p.1) = us.map fun p => Value.ref p.1 := by
  rw [List.map_set]
  refine List.ext_getElem? fun k => ?_
  rw [List.getElem?_set]
  split
  · subst_vars
    split
    · rw [List.getElem?_map, hi]; rfl
    · rename_i h; rw [List.getElem?_eq_none (Nat.le_of_not_lt h)]
  · rfl
def INTS (vs : List Value) : Prop := ∀ v ∈ vs, ∃ x t, v = Value.int x t
theorem INTS.snoc {vs : List Value} (h : INTS vs) (x : Int) (t : Tok) : INTS (vs ++ [.int x t]) := fun v hv => by
  rcases List.mem_append.mp hv with hv | hv
  · exact h v hv
  · rw [List.mem_singleton.mp hv]; exact ⟨_, _, rfl⟩
theorem INTS.set {vs : List Value} (h : INTS vs) (i : Nat) (x : Int) (t : Tok) : INTS (vs.set i (.int x t)) := fun v hv => by
  rcases List.mem_or_eq_of_mem_set hv with hv | rfl
  · exact h v hv
  · exact ⟨_, _, rfl⟩
theorem INTS.at {vs : List Value} (h : INTS vs) {i : Nat} (hi : i < vs.length) : ∃ x t, vs[i]? = some (.int x t) := by
  obtain ⟨x, t, e⟩ := h _ (List.getElem_mem hi)
  exact ⟨x, t, by rw [List.getElem?_eq_getElem hi, e]⟩
structure SpLk (m : Str → Option Value) (ga fo la ua qa : Addr) : Prop where
  k1 : m (Str.ofString "grammar") = some (.ref ga)
  k2 : m (Str.ofString "found") = some (.ref fo)
  k3 : m (Str.ofString "lacking") = some (.ref la)
  k4 : m (Str.ofString "users") = some (.ref ua)
  k5 : m (Str.ofString "queue") = some (.ref qa)
theorem offN_succ {R : Rls} {i : Nat} (h : i < R.length) : offN R (i + 1) = offN R i + (R[i].2.length + 1) := by
  unfold offN
  rw [List.take_add_one, List.getElem?_eq_getElem h, List.map_append, List.sum_append]
  simp
theorem offN_le {R : Rls} {i : Nat} (h : i ≤ R.length) : offN R i ≤ nit R := by
  have h1 : nit R = offN R i + ((R.drop i).map fun r => r.2.length + 1).sum := by
    unfold nit offN
    rw [← List.sum_append, ← List.map_append, List.take_append_drop]
  omega
/-- how many are still false -/
def cf (bs : List Bool) : Nat := bs.countP (fun b => !b)
theorem cf_set : ∀ {bs : List Bool} {i : Nat}, bs[i]? = some false → cf (bs.set i true) + 1 = cf bs
  | [], i, h => by simp at h
  | b :: bs, 0, h => by simp at h; subst h; simp [cf]
  | b :: bs, i + 1, h => by
    have ih := cf_set (bs := bs) (i := i) (by simpa using h)
    unfold cf at *
    simp only [List.set_cons_succ, List.countP_cons]
    omega
section
variable {c : Fix} {Z : List (Addr × Obj)} {W : List (Addr × (Obj → Prop))} {s : Shared} {A : Around} {env : Env} {elt target iter : Expr} {ifs : List Expr} {scope : Scope} {pos : Pos} {cl : List (Str × Addr)} {E : Value → Shared → Prop} {RR : Value → Addr → Result → Shared → Prop} {l : Addr} {xs : List Value} {n : Nat} {kv : List (Int × Int)}
theorem r_setnat {QU : Unit → Shared → Prop} {W' : List (Addr × (Obj → Prop))} {j : Nat} {t : Tok} {v : Value} (H : St c Z W s) (hr : Rep l (LIST xs) (LIST (xs.set j v)) W W') (hb : j < xs.length) (hz : xs.length ≤ 1000000) (k : ∀ s', St c Z W' s' → QU () s') : wpAny (model PG c.w) A (setItem (.ref l) (.int (j : Int) t) v) QU E s :=
  r_setitem H hr.mem (by simp) hr (by omega) (by omega) hz k
abbrev CTurn (c : Fix) (A : Around) (env : Env) (elt target : Expr) (ifs : List Expr) (scope : Scope) (cl : List (Str × Addr)) (n : Nat) (V : Nat → Value → Prop) (Inv : Nat → List Value → List (Addr × Obj) → List (Addr × (Obj → Prop)) → Prop) (S : Nat → Obj → Prop) : Prop :=
  ∀ it C D i v ys m Z' W' s', let QT := Inv (i + 1); i < n → ys.length ≤ i → V i v → Inv i ys Z' W' → St c Z' ((C, NS m) :: (D, LIST ys) :: (it, S (i + 1)) :: W') s' →
    wpAny (model PG c.w) A (assign target (compEnvC scope cl C env) v) (fun _ s₂ => CompElt c A elt ifs C D it (compEnvC scope cl C env) (S (i + 1)) ys QT s₂) NoE s'
abbrev CEnd (c : Fix) (n : Nat) (Inv : Nat → List Value → List (Addr × Obj) → List (Addr × (Obj → Prop)) → Prop) (RR : Value → Addr → Result → Shared → Prop) : Prop :=
  ∀ C D ys m Z' W' s', let GG := RR (.ref D) C (.ok .next) s'; Inv n ys Z' W' → St c Z' ((C, NS m) :: (D, LIST ys) :: W') s' → GG
theorem cg_list (Inv : Nat → List Value → List (Addr × Obj) → List (Addr × (Obj → Prop)) → Prop) (H : St c Z W s) (hh : A.handled = none) (h0 : Inv 0 [] Z W) (hn : xs.length ≤ 1000000) (hsrc : ∀ i ys Z' W', i ≤ xs.length → Inv i ys Z' W' → At Z' W' l (LIST xs)) (how : How target (fun i v => xs[i]? = some v))
    (turn : CTurn c A env elt target ifs scope cl xs.length (fun i v => xs[i]? = some v) Inv (LITER l)) (hR : CEnd c xs.length Inv RR) (hcell : ∀ y ∈ scope.names, y.2 ≠ .cell) (hkind : scope.kind = .function) :
    CompGo c A env elt target iter ifs scope pos cl E RR (.ref l) s :=
  it_list H (list_of (H.at (hsrc 0 [] _ _ (Nat.zero_le _) h0))) fun it s₂ H₂ =>
    comp_from (itr_list hh) Inv H₂ h0 hn (fun i ys Z' W' s' hi hJ H' => list_of (H'.at (hsrc i ys _ _ hi hJ))) (how_of how) (fun C D i v ys m Z' W' s' => turn it C D i v ys m Z' W' s') hR hcell hkind
theorem cg_range (Inv : Nat → List Value → List (Addr × Obj) → List (Addr × (Obj → Prop)) → Prop) (H : St c Z ((l, RANGE 0 n) :: W) s) (hh : A.handled = none) (hn : n ≤ 1000000) (h0 : Inv 0 [] Z W) (how : How target (fun i v => ∃ t, v = .int (i : Int) t))
    (turn : CTurn c A env elt target ifs scope cl n (fun i v => ∃ t, v = .int (i : Int) t) Inv (RITER 0 n)) (hR : CEnd c n Inv RR) (hcell : ∀ y ∈ scope.names, y.2 ≠ .cell) (hkind : scope.kind = .function) :
    CompGo c A env elt target iter ifs scope pos cl E RR (.ref l) s :=
  it_range H (H.get (.head _)) hn fun it s₂ H₂ =>
    comp_from (V := fun i v => ∃ t, v = .int (i : Int) t) (by have := itr_range (c := c) (A := A) (it := it) hh (a := 0) (n := n); simpa using this) Inv H₂.swap.tail h0 hn (fun i ys Z' W' s' hi hJ H' => trivial) (how_of how) (fun C D i v ys m Z' W' s' => turn it C D i v ys m Z' W' s') hR hcell hkind
theorem cg_keys (Inv : Nat → List Value → List (Addr × Obj) → List (Addr × (Obj → Prop)) → Prop) (H : St c Z W s) (hh : A.handled = none) (hd : Zs Z l (DI c.w kv)) (hn : kv.length ≤ 1000000) (hmono : ∀ i ys Z' W', i ≤ kv.length → Inv i ys Z' W' → ∀ p ∈ Z, p ∈ Z') (h0 : Inv 0 [] Z W) (how : How target (fun i v => ∃ k t, (kv.map (·.1))[i]? = some k ∧ v = .int k t))
    (turn : ∀ S, CTurn c A env elt target ifs scope cl kv.length (fun i v => ∃ k t, (kv.map (·.1))[i]? = some k ∧ v = .int k t) Inv S) (hR : CEnd c kv.length Inv RR) (hcell : ∀ y ∈ scope.names, y.2 ≠ .cell) (hkind : scope.kind = .function) :
    CompGo c A env elt target iter ifs scope pos cl E RR (.ref l) s := by
  obtain ⟨o, hz, kvs, hD, hv⟩ := hd
  obtain ⟨es, ep, q1, q2, q3, q4, q5⟩ := id hD
  have hat : ∀ {h : Heap}, h.get? l = some o → h.DictAt (intKind PG c.w) l kvs ep := fun hg => ⟨o, es, hg, q1, q2, q3, q4, q5⟩
  have hlen := hv.2.1
  refine it_keys H (H.notmodZ (P := DI c.w kv) ⟨o, hz, kvs, hD, hv⟩) (hat (H.frozen _ hz)) fun it s₂ H₂ => ?_
  have I := itr_keys (c := c) (A := A) (it := it) hh (d := l) (kvs := kvs) (ep := ep)
  rw [hlen] at I H₂
  exact comp_from I Inv H₂ h0 hn (fun i ys Z' W' s' hi hJ H' => hat (H'.frozen _ (hmono i ys _ _ hi hJ _ hz)))
    ((how_of how).imp id fun q => ⟨q.1, fun i v ⟨k, x, t, e1, e2⟩ => q.2 i v ⟨k, t, vi_key hv e1, e2⟩⟩)
    (fun C D i v ys m Z' W' s' hi hy ⟨k, x, t, e1, e2⟩ => turn _ it C D i v ys m Z' W' s' hi hy ⟨k, t, vi_key hv e1, e2⟩) hR hcell hkind
end
theorem ownFrom_append (R S : Rls) : ∀ k, ownFrom k (R ++ S) = ownFrom k R ++ ownFrom (k + R.length) S := by
  induction R with
  | nil => intro k; simp [ownFrom]
  | cons r R ih =>
    intro k
    rw [List.cons_append, ownFrom, ih (k + 1), ownFrom, List.append_assoc, List.length_cons]
    congr 3
    omega
theorem own_succ {R : Rls} {i : Nat} (h : i < R.length) : own (R.take (i + 1)) = own (R.take i) ++ List.replicate (R[i].2.length + 1) i := by
  unfold own
  rw [List.take_add_one, List.getElem?_eq_getElem h, ownFrom_append]
  congr 1
  rw [List.length_take, Nat.min_eq_left (Nat.le_of_lt h), Nat.zero_add]
  show List.replicate _ i ++ ownFrom (i + 1) [] = _
  simp [ownFrom]
theorem own_take_len {R : Rls} (i : Nat) : (own (R.take i)).length = offN R i := by rw [own_len]; rfl
def bylTo (R : Rls) (i : Nat) (s : Int) : List Nat := (List.range i).filter fun j => left R j = s
theorem bylTo_succ_hit {R : Rls} {i : Nat} {s : Int} (h : left R i = s) : bylTo R (i + 1) s = bylTo R i s ++ [i] := by
  unfold bylTo; rw [List.range_succ, List.filter_append]; simp [h]
theorem bylTo_succ_miss {R : Rls} {i : Nat} {s : Int} (h : left R i ≠ s) : bylTo R (i + 1) s = bylTo R i s := by
  unfold bylTo; rw [List.range_succ, List.filter_append]; simp [h]
theorem left_at {R : Rls} {i : Nat} (h : i < R.length) : left R i = R[i].1 := by unfold left; simp [h]
theorem ints_rep (k : Nat) (i : Nat) (t : Tok) : IntsAre (List.replicate k (Value.int (i : Int) t)) (nats (List.replicate k i)) := by
  induction k with
  | zero => exact .nil
  | succ k ih => exact .cons _ _ ih
theorem ints_app {vs us : List Value} {a b : List Nat} (h : IntsAre vs (nats a)) (h2 : IntsAre us (nats b)) : IntsAre (vs ++ us) (nats (a ++ b)) := by
  unfold nats at *
  rw [List.map_append]
  exact h.append h2
set_option maxRecDepth 100000
section
variable {c : Fix} {Z : List (Addr × Obj)} {W : List (Addr × (Obj → Prop))} {s : Shared} {A : Around} {E : Value → Shared → Prop} {env : Env} {Q : Value → Shared → Prop} {l sl t : Addr} {xs : List Value}
theorem r_dictlit {pos : Pos} (H : St c Z W s) (k : ∀ a s', St c Z ((a, DI c.w []) :: W) s' → Q (.ref a) s') : wpAny (model PG c.w) A (eval (.Dict [] [] pos) env) Q E s :=
  wpAny_Dict_empty (k _ _ (H.push (P := DI c.w []) (o := { cls := .type "dict", data := .dict #[] }) ⟨[], ⟨#[], 0, ⟨rfl, rfl, rfl⟩, rfl, by intro e he; simp at he, .nil, .nil⟩, .nil⟩ rfl _))
theorem own_tup (H : St c Z W s) : ∃ o, s.heap.get? 95 = some o ∧ TUP [.str (Str.ofString "$end") 315, .str (Str.ofString "error") 316, .str (Str.ofString "$undefined") 317] o := ⟨_, H.KIn _ _ (n_own c.w), 0, rfl⟩
def psum (ps : List (Str × List Str)) (i : Nat) : Nat := ((ps.take i).map fun p => p.2.length).sum
theorem psum_succ {ps : List (Str × List Str)} {i : Nat} (h : i < ps.length) : psum ps (i + 1) = psum ps i + ps[i].2.length := by
  unfold psum
  rw [List.take_add_one, List.getElem?_eq_getElem h, List.map_append, List.sum_append]
  simp
theorem psum_le {ps : List (Str × List Str)} (i : Nat) : psum ps i ≤ (ps.map fun p => p.2.length).sum := by
  have h1 : (ps.map fun p => p.2.length).sum = psum ps i + ((ps.drop i).map fun p => p.2.length).sum := by
    unfold psum
    rw [← List.sum_append, ← List.map_append, List.take_append_drop]
  omega
def ONE (x : Str) : Prop := x = Str.ofString "s" ∨ x = Str.ofString "a" ∨ x = Str.ofString "b"
theorem one_first {x : Str} {tk u : Tok} (h : ONE x) : sliceMade x tk none (some (1, u)) none = .val (.str x tk) := by
  rcases h with rfl | rfl | rfl <;> rfl
/-- x[:1] of a letter -/
theorem t_first {value slice : Expr} {x : Str} {tk u : Tok} (H : St c Z W s) (hx : ONE x) (hs : ∃ o, s.heap.get? sl = some o ∧ SLICE .none (.int 1 u) o) (k : Q (.str x tk) s)
    (hsub : subscripted slice false (.str x tk) (.ref sl) = operate [.ref sl, .str x tk] (getItem (.str x tk) (.ref sl)) := by rfl) : wpAny (model PG c.w) A (subscriptTail value slice (.str x tk) (.ref sl)) Q E s := by
  obtain ⟨o, ho, e⟩ := hs
  unfold SLICE at e
  subst e
  refine t_slice (typeIs_str _ _ _) PySem.F.slot_str_getitem.lookup (wpAny_getItem_str_slice (l := none) (u := some (1, u)) (st := none) ⟨_, ho, rfl, rfl⟩ rfl ?_) hsub
  rw [one_first hx]
  exact k
theorem one_ne_error {x : Str} (h : ONE x) : (x == Str.ofString "error") = false := by rcases h with rfl | rfl | rfl <;> rfl
theorem r_in_tup {x : Str} {ys : List Str} {tk : Tok} (ht : ∃ o, s.heap.get? l = some o ∧ TUP xs o) (hi : StrsAre xs ys) (k : Q (.bool (ys.any (· == x))) s) : wpAny (model PG c.w) A (compareOp .In (.str x tk) (.ref l)) Q E s := by
  obtain ⟨n, ho⟩ := tup_at ht
  refine PySem.SeqAt.in_tupleAt (isStrOf x) ⟨_, ho, rfl, n, rfl⟩ (fun y hy => (eq_isStrOf x tk hi y (by simpa using hy)).at _ _) ?_
  have e : xs.toArray.any (isStrOf x) = ys.any (· == x) := by rw [← Array.any_toList, show xs.toArray.toList = xs from rfl, any_isStrOf x hi]
  rw [e]; exact k
theorem one_in {x : Str} (h : ONE x) : [Str.ofString "", Str.ofString "$", Str.ofString "'"].any (· == x) = false := by rcases h with rfl | rfl | rfl <;> rfl
theorem strs_at {vs : List Value} {ys : List Str} (h : StrsAre vs ys) {j : Nat} {y : Str} (e : ys[j]? = some y) : ∃ t, vs[j]? = some (.str y t) := h.at e
theorem strs_snoc {vs : List Value} {ys : List Str} (h : StrsAre vs ys) (y : Str) (t : Tok) : StrsAre (vs ++ [.str y t]) (ys ++ [y]) := by
  induction h with
  | nil => exact .cons y t .nil
  | cons z u r ih => exact .cons z u ih
theorem strs_app {vs us : List Value} {ys zs : List Str} (h : StrsAre vs ys) (h2 : StrsAre us zs) : StrsAre (vs ++ us) (ys ++ zs) := by
  induction h with
  | nil => exact h2
  | cons z u r ih => exact .cons z u ih
theorem any_mem {ys : List Str} {x : Str} : ys.any (· == x) = true ↔ x ∈ ys := by
  rw [List.any_eq_true]
  simp
end
set_option compiler.extract_closed false
local macro_rules | `(tactic| walk_at "mem") => `(tactic| first | exact List.Mem.head _ | (apply List.Mem.tail; walk_at "mem") | assumption | exact List.mem_append_left _ (fam_mem (by assumption)) | (apply List.mem_append_right; walk_at "mem"))
local macro_rules | `(tactic| walk_at "rep") => `(tactic| first | exact Rep.head | (apply Rep.tail; walk_at "rep") | exact Rep.left (fam_rep (by assumption)))
local macro_rules | `(tactic| walk_at "lk") => `(tactic| first | exact up_hit | (with_reducible refine up_miss ?_ ?_; decide; walk_at "lk") | assumption)
local macro_rules | `(tactic| walk_at "lk0") => `(tactic| first | exact rfl | (with_reducible refine up_miss ?_ ?_; decide; walk_at "lk0"))
local macro_rules | `(tactic| walk_at "ent") => `(tactic| ((case ho => k_is); (case hcd => k_is); (case hb => exact BindsTo.of_eq rfl); (case hloc => exact locs rfl); (case hcell => decide); (case h1 => exact rfl); (case h2 => exact rfl); (case h3 => exact rfl)))
local macro_rules | `(tactic| walk_at "is") => `(tactic| first | with_reducible exact n_law_box _ | with_reducible exact n_law_pairs _ | with_reducible exact n_law_kernel _ | with_reducible exact n_law_joined _ | with_reducible exact n_law_is_closed _ | with_reducible exact n_plain_grammar _ | with_reducible exact n_last_terminal _ | with_reducible exact n_Grammar _ | with_reducible exact n_Rule _ | with_reducible exact n_closure_one _ | with_reducible exact n_first_masks _ | with_reducible exact n_first_of _ | with_reducible exact n_nullable _ | with_reducible exact n_spread _ | with_reducible exact n_OWN_TERMINALS _ | with_reducible exact n_len _ | with_reducible exact n_draw _ | with_reducible exact n_list _ | with_reducible exact n_dict _ | with_reducible exact n_tuple _ | with_reducible exact n_sorted _ | with_reducible exact n_range _ | with_reducible exact n_int _ | with_reducible exact n_abs _ | with_reducible exact n_END _ | with_reducible exact kp_law_box _ | with_reducible exact kp_law_pairs _ | with_reducible exact kp_law_kernel _ | with_reducible exact kp_law_joined _ | with_reducible exact kp_law_is_closed _ | with_reducible exact kp_plain_grammar _ | with_reducible exact kp_last_terminal _ | with_reducible exact kp_Grammar _ | with_reducible exact kp_Rule _ | with_reducible exact kp_closure_one _ | with_reducible exact kp_first_masks _ | with_reducible exact kp_first_of _ | with_reducible exact kp_nullable _ | with_reducible exact kp_spread _ | with_reducible exact kp_law_draw _ | with_reducible exact kp_136 _ | with_reducible exact kp_143 _ | with_reducible exact kp_164 _ | with_reducible exact kp_171 _ | with_reducible exact kp_178 _ | with_reducible exact kp_185 _ | with_reducible exact kp_192 _ | k_is)
local macro_rules | `(tactic| walk_at "aok") => `(tactic| first | with_reducible exact a195_names _ | with_reducible exact a195_rules _ | with_reducible exact a195_by_left _ | with_reducible exact a195_offsets _ | with_reducible exact a195_owners _ | with_reducible exact a195_terminal_count _ | with_reducible exact a195_item_count _ | with_reducible exact a195_levels _ | with_reducible exact a195_expect _ | with_reducible exact a195_start _ | with_reducible exact a113_number _ | with_reducible exact a113_left _ | with_reducible exact a113_right _ | with_reducible exact a113_level_of _ | with_reducible exact a113_action _ | with_reducible exact a113_line _ | with_reducible exact a113_before _ | with_reducible exact m195_symbol_count _ | with_reducible exact m195_is_terminal _ | with_reducible exact m195_rules_of _ | with_reducible exact m195_item _ | with_reducible exact m195_rule_of _ | with_reducible exact m195_dot_of _ | with_reducible exact m195_after _ | with_reducible exact s195_names _ | with_reducible exact s195_rules _ | with_reducible exact s195_by_left _ | with_reducible exact s195_offsets _ | with_reducible exact s195_owners _ | with_reducible exact s195_terminal_count _ | with_reducible exact s195_item_count _ | with_reducible exact s195_levels _ | with_reducible exact s195_expect _ | with_reducible exact s195_start _ | with_reducible exact s113_number _ | with_reducible exact s113_left _ | with_reducible exact s113_right _ | with_reducible exact s113_level_of _ | with_reducible exact s113_action _ | with_reducible exact s113_line _ | with_reducible exact s113_before _)
local macro_rules | `(tactic| walk_at "entd") => `(tactic| ((case ho => k_is); (case hcd => k_is); (case hb => exact binds_K (show Frag.In (Kf _) _ from St.KIn (by assumption)) rfl (by k_is) rfl rfl (by with_unfolding_all rfl)); (case hloc => exact locs rfl); (case hcell => decide); (case h1 => exact rfl); (case h2 => exact rfl); (case h3 => exact rfl)))
local macro_rules | `(tactic| walk_at "syn") => `(tactic| first
  | ((with_reducible refine' x_assign_comp ?_ ?a1 ?a2 ?a3 ?a4 ?a5 ?a6 ?a7); (case a1 => exact rfl); (case a2 => exact rfl); (case a3 => exact rfl); (case a4 => decide); (case a5 => exact rfl); (case a6 => exact rfl); (case a7 => (intro _; rfl)))
  | ((with_reducible refine' e_comp ?_ ?a2 ?a3 ?a4 ?a7); (case a2 => exact rfl); (case a3 => exact rfl); (case a4 => decide); (case a7 => (intro _; rfl)))
  | ((with_reducible refine' x_assign ?_ ?a1); (case a1 => exact rfl))
  | ((with_reducible refine' x_setitem ?_ ?a1); (case a1 => exact rfl))
  | ((with_reducible refine' x_setattr ?_ ?a1); (case a1 => exact rfl))
  | ((with_reducible refine' x_tuple ?_ ?a1 ?a2); (case a1 => exact rfl); (case a2 => exact rfl))
  | ((with_reducible refine' x_ret ?_))
  | ((with_reducible refine' x_if ?_))
  | ((with_reducible refine' x_expr ?_ ?a1 ?a2); (case a1 => exact rfl); (case a2 => exact rfl))
  | ((with_reducible refine' x_for ?_ ?a1); (case a1 => (intro _; rfl)))
  | ((with_reducible refine' x_cont ?_))
  | ((with_reducible refine' wpAny_assign_Name ?_))
  | ((with_reducible refine' x_nil ?_))
  | ((with_reducible refine' q_sub ?_))
  | ((with_reducible refine' wpAny_BinOp ?_))
  | ((with_reducible refine' wpAny_Compare1 ?_ ?a1); (case a1 => with_unfolding_all rfl))
  | ((with_reducible refine' UnaryOp_ ?_))
  | ((with_reducible refine' IfExp_ ?_))
  | ((with_reducible refine' BoolOp_one ?_))
  | ((with_reducible refine' BoolOp_and ?_))
  | ((with_reducible refine' BoolOp_or ?_))
  | ((with_reducible refine' Constant_bool ?_))
  | ((with_reducible refine' Constant_none ?_))
  | ((with_reducible refine' Tuple_ ?_))
  | ((with_reducible refine' List_ ?_))
  | ((with_reducible refine' Attribute_any_ ?_ ?a1); (case a1 => with_unfolding_all rfl))
  | ((with_reducible refine' MethodCall_ ?_ ?a1); (case a1 => exact rfl))
  | ((with_reducible refine' PyProof.Rows.Call_ ?_ ?a1); (case a1 => exact rfl))
  | ((with_reducible refine' args_nil ?_))
  | ((with_reducible refine' args_cons ?_ ?a1); (case a1 => exact rfl))
  | ((with_reducible refine' wpAny_isTrue_Compare1 ?_ ?a1); (case a1 => with_unfolding_all rfl))
  | ((with_reducible refine' isTrue_not ?_))
  | ((with_reducible refine' isTrue_and_nil ?_))
  | ((with_reducible refine' isTrue_and ?_))
  | ((with_reducible refine' isTrue_or_nil ?_))
  | ((with_reducible refine' isTrue_or ?_))
  | ((with_reducible refine' isTrue_plain ?_ ?a1); (case a1 => exact rfl))
  | ((with_reducible refine' gt_int ?_))
  | ((with_reducible refine' lt_int ?_))
  | ((with_reducible refine' ge_int ?_))
  | ((with_reducible refine' le_int ?_))
  | ((with_reducible refine' eq_int ?_))
  | ((with_reducible refine' PyProof.Rows.eq_str ?_))
  | ((with_reducible refine' ne_int ?_))
  | ((with_reducible refine' wpAny_truthy_bool ?_))
  | ((with_reducible refine' truthy_int ?_))
  | ((with_reducible refine' not_of ?_))
  | ((with_reducible refine' r_int_int ?_))
  | ((with_reducible refine' PyProof.Rows.callWith_builtin1 ?_ ?a1 ?a2); (case a1 => exact rfl); (case a2 => exact rfl))
  | ((with_reducible refine' PyProof.Rows.callWith_type1 ?_ ?a1 ?a2); (case a1 => exact rfl); (case a2 => exact rfl))
  | ((with_reducible refine' c_meth0 ?_))
  | ((with_reducible refine' c_meth ?_ ?a1 ?a2); (case a1 => exact rfl); (case a2 => exact rfl))
  | ((with_reducible refine' c_topN ?a1 ?_ ?a2 ?a3); (case a1 => walk_at "is"); (case a2 => exact rfl); (case a3 => exact rfl))
  | ((with_reducible refine' c_topM ?a1 ?_ ?a2 ?a3); (case a1 => walk_at "is"); (case a2 => exact rfl); (case a3 => exact rfl))
  | ((with_reducible refine' spliced_cons ?_))
  | ((with_reducible refine' spliced_nil ?_))
)
local macro_rules | `(tactic| walk_at "name") => `(tactic| ((with_reducible show wpAny _ _ (eval (Expr.Name _ _) _) _ _ _); (with_reducible rename St _ _ _ _ => HH); first
  | ((with_reducible refine' e_loc HH ?a1 ?a2 ?a3 ?_ ?a4 ?a5 ?a6); (case a5 => exact rfl); (case a4 => exact rfl); (case a6 => exact rfl); (case a1 => walk_at "mem"); (case a2 => exact rfl); (case a3 => walk_at "lk"))
  | ((with_reducible refine' e_cell HH ?a1 ?a2 ?_ ?a3 ?a4 ?a5); (case a4 => exact rfl); (case a3 => exact rfl); (case a5 => exact rfl); (case a1 => exact rfl); (case a2 => walk_at "mem"))
  | ((with_reducible refine' e_free HH ?a1 ?a2 ?_ ?a3 ?a4 ?a5 ?a6); (case a4 => exact rfl); (case a3 => exact rfl); (case a5 => exact rfl); (case a6 => exact rfl); (case a1 => exact rfl); (case a2 => walk_at "mem"))
  | ((with_reducible refine' e_glob HH ?a1 ?_ ?a2 ?a3 ?a4 ?a5); (case a4 => exact rfl); (case a3 => exact rfl); (case a2 => exact rfl); (case a5 => exact rfl); (case a1 => walk_at "is"))
  | ((with_reducible refine' e_built HH ?a1 ?a2 ?a3 ?_ ?a4 ?a5 ?a6 ?a7 ?a8); (case a7 => exact rfl); (case a6 => exact rfl); (case a5 => exact rfl); (case a4 => exact rfl); (case a8 => exact rfl); (case a1 => walk_at "is"); (case a2 => boot_by_name); (case a3 => decide))
))
local macro_rules | `(tactic| walk_at "leaf") => `(tactic| ((with_reducible rename St _ _ _ _ => HH); first
  | ((with_reducible refine' e_int HH (fun t s' H' => ?_)); clear HH)
  | ((with_reducible refine' e_str HH (fun t s' H' => ?_)); clear HH)
  | ((with_reducible refine' r_add HH (fun t s' H' => ?_)); clear HH)
  | ((with_reducible refine' r_sub HH (fun t s' H' => ?_)); clear HH)
  | ((with_reducible refine' r_or HH (fun t s' H' => ?_)); clear HH)
  | ((with_reducible refine' r_and HH (fun t s' H' => ?_)); clear HH)
  | ((with_reducible refine' r_mul HH ?a1 (fun t s' H' => ?_)); (case a1 => mul_fits); clear HH)
  | ((with_reducible refine' r_mod HH ?a1 (fun t s' H' => ?_)); (case a1 => first | omega | decide); clear HH)
  | ((with_reducible refine' r_div HH ?a1 ?a2 (fun t s' H' => ?_)); (case a1 => omega); (case a2 => omega); clear HH)
  | ((with_reducible refine' r_neg HH (fun t s' H' => ?_)); clear HH)
  | ((with_reducible refine' r_inv HH (fun t s' H' => ?_)); clear HH)
  | ((with_reducible refine' r_st HH ?a1 ?a2 (fun s' H' => ?_) ?a3 ?a4); (case a1 => walk_at "rep"); (case a2 => exact rfl); (case a3 => exact rfl); (case a4 => exact rfl); clear HH)
  | ((with_reducible refine' b_len_list HH ?a1 ?a2 (fun t s' H' => ?_)); (case a1 => walk_at "rd"); (case a2 => omega); clear HH)
  | ((with_reducible refine' r_tup HH ?a1 (fun a s' H' => ?_)); (case a1 => (simp only [List.length_cons, List.length_nil]; omega)); clear HH)
  | ((with_reducible refine' r_list HH ?a1 (fun a s' H' => ?_)); (case a1 => (simp only [List.length_cons, List.length_nil]; omega)); clear HH)
  | ((with_reducible show wpAny _ _ (getAttr (Value.ref _) _ _) _ _ _); (with_reducible refine' g_attr HH ?a1 ?a2 ?a3 ?a4 ?a5 (fun s' H' => ?_)); (case a1 => walk_at "aok"); (case a2 => walk_at "rd"); (case a3 => walk_at "rd"); (case a4 => walk_at "lk"); (case a5 => exact rfl); clear HH)
  | ((with_reducible refine' t_nat ?a1 ?a2 ?a3 ?_ ?a4); (case a1 => walk_at "rd"); (case a2 => first | assumption | exact List.getElem?_set_self (by omega)); (case a3 => omega); (case a4 => exact rfl))
  | ((with_reducible refine' t_natT ?a1 ?a2 ?a3 ?_ ?a4); (case a1 => walk_at "rd"); (case a2 => assumption); (case a3 => omega); (case a4 => exact rfl))
  | ((with_reducible refine' r_list_list HH ?a1 ?a2 (fun a s' H' => ?_)); (case a1 => walk_at "rd"); (case a2 => omega); clear HH)
  | ((with_reducible refine' r_list_tup HH ?a1 ?a2 (fun a s' H' => ?_)); (case a1 => walk_at "rd"); (case a2 => omega); clear HH)
  | ((with_reducible refine' r_len_tup HH ?a1 ?a2 (fun t s' H' => ?_)); (case a1 => walk_at "rd"); (case a2 => omega); clear HH)
  | ((with_reducible refine' r_append HH ?a1 ?a2 (fun s' H' => ?_)); (case a1 => walk_at "rep"); (case a2 => walk_at "len"); clear HH)
  | ((with_reducible refine' r_pop HH ?a1 ?a2 (fun s' H' => ?_)); (case a1 => walk_at "rep"); (case a2 => walk_at "len"); clear HH)
  | ((with_reducible refine' r_true_list HH ?a1 ?a2 (fun s' H' => ?_)); (case a1 => walk_at "rd"); (case a2 => walk_at "len"); clear HH)
  | ((with_reducible show wpAny _ _ (getMethod (Value.ref _) _ _) _ _ _); first
      | ((with_reducible refine' q_meth ?a1 PySem.F.slot_list_append PySem.F.type_list_append ?_); (case a1 => walk_at "rd"))
      | ((with_reducible refine' q_meth ?a1 PySem.F.slot_list_pop PySem.F.type_list_pop ?_); (case a1 => walk_at "rd"))
      | ((with_reducible refine' q_meth ?a1 PySem.F.slot_list_extend PySem.F.type_list_extend ?_); (case a1 => walk_at "rd"))
      | ((with_reducible refine' q_meth ?a1 PySem.F.slot_list_index PySem.F.type_list_index ?_); (case a1 => walk_at "rd"))
      | ((with_reducible refine' q_dmeth ?a1 PySem.F.slot_dict_get PySem.F.type_dict_get ?_); (case a1 => walk_at "rd"))
      | ((with_reducible refine' q_dmeth ?a1 PySem.F.slot_dict_items PySem.F.type_dict_items ?_); (case a1 => walk_at "rd")))
  | ((with_reducible refine' t_di HH ?a1 ?a2 (fun t s' H' => ?_) ?a3); (case a1 => walk_at "rd"); (case a2 => assumption); (case a3 => exact rfl); clear HH)
  | ((with_reducible refine' d_setitem HH ?a1 ?a2 (fun s' H' => ?_)); (case a1 => walk_at "rep"); (case a2 => walk_at "len"); clear HH)
  | ((with_reducible refine' d_get_some HH ?a1 ?a3 ?a2 (fun t s' H' => ?_)); (case a3 => assumption); (case a2 => walk_at "rd"); (case a1 => walk_at "nm"); clear HH)
  | ((with_reducible refine' d_get_none HH ?a1 ?a3 ?a2 (fun t s' H' => ?_)); (case a3 => assumption); (case a2 => walk_at "rd"); (case a1 => walk_at "nm"); clear HH)
  | ((with_reducible refine' d_get HH ?a1 ?a2 (fun t s' H' => ?_)); (case a2 => walk_at "rd"); (case a1 => walk_at "nm"); clear HH)
  | ((with_reducible refine' d_in HH ?a1 ?a2 (fun s' H' => ?_)); (case a2 => walk_at "rd"); (case a1 => walk_at "nm"); clear HH)
  | ((with_reducible refine' c_topM0 HH ?a1 ?_); (case a1 => walk_at "is"))
  | ((with_reducible refine' e_slice_from ?_))
  | ((with_reducible refine' e_slice_to ?_))
  | ((with_reducible refine' r_setnat HH ?a1 ?a2 ?a3 (fun s' H' => ?_)); (case a1 => walk_at "rep"); (case a2 => walk_at "len"); (case a3 => walk_at "len"); clear HH)
  | ((with_reducible refine' r_shl HH ?a1 ?a2 ?a3 (fun t s' H' => ?_)); (case a1 => omega); (case a2 => omega); (case a3 => decide); clear HH)
  | ((with_reducible refine' g_set HH ?a1 ?a2 ?a3 ?a4 (fun s' H' => ?_)); (case a1 => walk_at "aok"); (case a2 => walk_at "rd"); (case a3 => walk_at "rep"); (case a4 => decide); clear HH)
  | ((with_reducible refine' r_stc HH ?a1 ?a2 (fun s' H' => ?_) ?a3 ?a4); (case a3 => exact rfl); (case a4 => exact rfl); (case a1 => exact rfl); (case a2 => walk_at "rep"); clear HH)
  | ((with_reducible refine' r_notin_strs ?a1 ?a2 ?_); (case a1 => walk_at "rd"); (case a2 => assumption))
  | ((with_reducible refine' r_in_strs ?a1 ?a2 ?_); (case a1 => walk_at "rd"); (case a2 => assumption))
  | ((with_reducible refine' r_concat HH ?a1 ?a2 ?a3 (fun a s' H' => ?_)); (case a1 => walk_at "rd"); (case a2 => walk_at "rd"); (case a3 => walk_at "len"); clear HH)
  | ((with_reducible refine' r_index HH ?a1 ?a2 ?a3 ?a4 (fun t s' H' => ?_)); (case a1 => walk_at "rd"); (case a2 => assumption); (case a3 => assumption); (case a4 => omega); clear HH)
  | ((with_reducible refine' r_dictlit HH (fun a s' H' => ?_)); clear HH)
  | ((with_reducible refine' r_tup_list HH ?a1 ?a2 (fun a s' H' => ?_)); (case a1 => walk_at "rd"); (case a2 => walk_at "len"); clear HH)
  | ((with_reducible refine' r_abs HH (fun t s' H' => ?_)); clear HH)
  | ((with_reducible refine' r_pow HH ?a1 ?a2 (fun t s' H' => ?_)); (case a1 => omega); (case a2 => decide); clear HH)
  | ((with_reducible refine' r_range HH (fun a s' H' => ?_)); clear HH)
  | ((with_reducible show wpAny _ _ (getMethod (Value.ref _) _ _) _ _ _); (with_reducible refine' g_meth HH ?a1 ?a2 ?a3 ?a4 ?_); (case a1 => walk_at "aok"); (case a2 => walk_at "rd"); (case a3 => walk_at "rd"); (case a4 => walk_at "lk"))

))
local macro_rules | `(tactic| walk_at "rd") => `(tactic| first | exact St.get (by assumption) (by walk_at "mem") | exact St.zs (by assumption) (by assumption) | exact St.at (by assumption) (by walk_at "at"))
local macro_rules | `(tactic| walk_at "len") => `(tactic| first | omega | (simp only [List.length_append, List.length_cons, List.length_nil, List.length_map, List.length_replicate]; omega))
local macro_rules | `(tactic| walk_at "nm") => `(tactic| first | exact St.notmod (by assumption) (by walk_at "mem") | exact St.notmodZ (by assumption) (by assumption) | exact St.atmod (by assumption) (by walk_at "at"))
local macro_rules | `(tactic| walk_at "at") => `(tactic| first | assumption | exact At.head | (apply At.cons; walk_at "at") | (apply At.more; walk_at "at"))
local macro_rules | `(tactic| walk_at "for") => `(tactic| first | ((with_reducible show ForGo _ _ _ _ _ _ _ _ _ _); unfold ForGo))
local macro_rules | `(tactic| walk_at "ctl") => `(tactic| first
  | ((with_reducible show wpAny _ _ (call _ (Prod.snd _)) _ _ _); (show wpAny _ _ (call _ [Value.ref _]) _ _ _))
  | ((with_reducible show And (Exists _) _); (with_reducible rename St _ _ _ _ => HH); (refine ⟨⟨_, _, HH⟩, ?_⟩))
  | ((with_reducible show Exists _); (with_reducible rename St _ _ _ _ => HH); (refine ⟨_, _, HH, ?_⟩); clear HH; intro _ _ _)
  | with_reducible refine then_next ?_ | with_reducible refine then_cont ?_ | with_reducible refine then_ret ?_
  | ((with_reducible show ite ((!_) = true) _ _); refine if_not ?_)
  | ((with_reducible show ite (true = true) _ _); refine (if_pos rfl).mpr ?_)
  | ((with_reducible show ite (false = true) _ _); refine (if_neg Bool.false_ne_true).mpr ?_))
local macro_rules | `(tactic| walk_at "am") => `(tactic| first | exact Am.less (Am.deeper (by assumption) _) (by decide) | exact Am.less (by assumption) (by decide))
local macro_rules | `(tactic| walk_at "w") => `(tactic| first | walk_at "syn" | walk_at "name" | walk_at "leaf" | walk_at "ctl")
set_option compiler.extract_closed true
local macro_rules | `(tactic| walk_at "pool") => `(tactic| first
  | ((with_reducible rename St _ _ _ _ => HH); (with_reducible refine' r_setitem HH ?a1 ?a2 ?a3 ?a4 ?a5 ?a6 (fun s' H' => ?_)); (case a1 => walk_at "mem"); (case a2 => exact (rfl : _ = [_, _, _, _])); (case a3 => walk_at "rep"); (case a4 => decide); (case a5 => simp); (case a6 => simp); clear HH)
  | ((with_reducible refine' t_list ?a1 ?a2 ?a3 ?a4 ?_ ?a5); (case a1 => walk_at "rd"); (case a2 => decide); (case a3 => decide); (case a4 => exact rfl); (case a5 => exact rfl)))
theorem fmod_b (a : Int) {b : Int} (h : 0 < b) : 0 ≤ a.fmod b ∧ a.fmod b < b := ⟨Int.fmod_nonneg_of_pos a h, Int.fmod_lt_of_pos a h⟩
set_option maxRecDepth 100000
set_option maxHeartbeats 400000
theorem draw_spec {c : Fix} {Z : List (Addr × Obj)} {W : List (Addr × (Obj → Prop))} {s : Shared} {A : Around} {E : Value → Shared → Prop} {Q : Value → Shared → Prop}
   {p ca : Addr} {cells : List Value} {g st pl most : Int} {t1 t2 t3 t4 : Tok} (H : St c Z ((p, LIST [.ref ca, .int g t1, .int st t2, .int pl t3]) :: W) s) (hA : Am A 3)
   (hc : Zs Z ca (LIST cells)) (hcz : cells.length < 1000) (hi : ∀ v ∈ cells, ∃ i t, v = .int i t) (hm : 0 < most) (hm2 : most < 100) (hs : 0 ≤ st) (hs2 : st < 2147483647) (hl : 0 ≤ pl) (hl2 : pl < 1000000)
   (k : ∀ d t g' t1' st' t2' t3' s', 0 ≤ d → d < most → 0 ≤ st' → st' < 2147483647 → St c Z ((p, LIST [.ref ca, .int g' t1', .int st' t2', .int (pl + 1) t3']) :: W) s' → Q (.int d t) s') :
   wpAny (model PG c.w) A (call (.ref 224) [.ref p, .int most t4]) Q E s := by
  refine' wpAny_call (enter (binds := [(Str.ofString "pool", .ref p), (Str.ofString "most", .int most t4)]) H hA ?ho ?hcd ?hb ?hloc ?hcell ?h1 ?h2 ?h3 ?h4)
  walk_at "ent"
  intro L s₁ H₁
  rw [ms_lookup] at H₁
  simp only [List.reverse_cons, List.reverse_nil, List.nil_append, List.cons_append, ms] at H₁
  clear H
  repeat first | walk_at "w" | walk_at "pool"

  refine if_dec (fun hg => ?_) (fun hg => ?_)
  · repeat first | walk_at "w" | walk_at "pool"
    dsimp only
    exact k _ _ _ _ _ _ _ _ (fmod_b _ hm).1 (fmod_b _ hm).2 hs hs2 (St.tail (by assumption))
  · repeat first | walk_at "w" | walk_at "pool"
    refine if_dec (fun hc2 => ?_) (fun hc2 => ?_)
    · repeat walk_at "w"
      refine t_list (St.get (by assumption) (by walk_at "mem")) (by decide) (by decide) (by exact rfl) ?_
      repeat walk_at "w"
      have hlt : pl.toNat < cells.length := by omega
      obtain ⟨i, t, e⟩ := hi cells[pl.toNat] (List.getElem_mem _)
      refine t_list (St.zs (by assumption) hc) hl (by omega) (by rw [List.getElem?_eq_getElem hlt, e]) ?_
      repeat walk_at "w"
      dsimp only
      exact k _ _ _ _ _ _ _ _ (fmod_b _ hm).1 (fmod_b _ hm).2 (fmod_b _ (by decide)).1 (fmod_b _ (by decide)).2 (St.tail (by assumption))
    · repeat first | walk_at "w" | walk_at "pool"
      dsimp only
      exact k _ _ _ _ _ _ _ _ (fmod_b _ hm).1 (fmod_b _ hm).2 (fmod_b _ (by decide)).1 (fmod_b _ (by decide)).2 (St.tail (by assumption))

/-- the pool: at most b draws so far -/
def POOL (Z0 : List (Addr × Obj)) (b : Nat) (o : Obj) : Prop := ∃ (ca : Addr) (cells : List Value) (g st pl : Int) (t1 t2 t3 : Tok), LIST [.ref ca, .int g t1, .int st t2, .int pl t3] o ∧ Zs Z0 ca (LIST cells) ∧ cells.length < 1000 ∧ (∀ v ∈ cells, ∃ i t, v = Value.int i t) ∧
  0 ≤ st ∧ st < 2147483647 ∧ 0 ≤ pl ∧ pl ≤ b
theorem Rep.perm {a : Addr} {P P' : Obj → Prop} {W W' : List (Addr × (Obj → Prop))} (h : Rep a P P' W W') : ∃ V, W.Perm ((a, P) :: V) ∧ W'.Perm ((a, P') :: V) := by
  induction h with
  | head => exact ⟨_, .refl _, .refl _⟩
  | @tail p r r' _ ih =>
    obtain ⟨V, h1, h2⟩ := ih
    exact ⟨p :: V, (h1.cons p).trans (List.Perm.swap _ _ _), (h2.cons p).trans (List.Perm.swap _ _ _)⟩
theorem pool_draw {c : Fix} {Z Z0 : List (Addr × Obj)} {W W' : List (Addr × (Obj → Prop))} {s : Shared} {A : Around} {E Q : Value → Shared → Prop} {p : Addr} {b : Nat} {most : Int} {t : Tok} (H : St c Z W s) (hA : Am A 3) (hz : ∀ q ∈ Z0, q ∈ Z) (hr : Rep p (POOL Z0 b) (POOL Z0 (b + 1)) W W')
   (hm : 0 < most) (hm2 : most < 100) (hb : b < 1000000) (k : ∀ (d : Nat) t s', (d : Int) < most → St c Z W' s' → Q (.int (d : Int) t) s') : wpAny (model PG c.w) A (call (.ref 224) [.ref p, .int most t]) Q E s := by
  obtain ⟨V, h1, h2⟩ := hr.perm
  have H1 := H.perm h1
  obtain ⟨o, ho, ca, cells, g, st, pl, t1, t2, t3, hl, hc, hcz, hi, a1, a2, a3, a4⟩ := H1.live _ (List.mem_cons_self ..)
  have H2 : St c Z ((p, LIST [.ref ca, .int g t1, .int st t2, .int pl t3]) :: V) s := ⟨H1.ok, H1.keep, H1.frozen, fun q hq => by
    rcases List.mem_cons.mp hq with rfl | hq
    · exact ⟨o, ho, hl⟩
    · exact H1.live q (.tail _ hq), fun q hq => by
    rcases List.mem_cons.mp hq with rfl | hq
    · exact H1.off (p, POOL Z0 b) (List.mem_cons_self ..)
    · exact H1.off q (.tail _ hq), H1.nodup, H1.gens, H1.drawn, H1.os, fun q hq => by
    rcases List.mem_cons.mp hq with rfl | hq
    · exact H1.big.1 (p, POOL Z0 b) (List.mem_cons_self ..)
    · exact H1.big.1 q (.tail _ hq), H1.big.2⟩
  refine draw_spec H2 hA (hc.mono hz) hcz hi hm hm2 a1 a2 a3 (by omega) fun d t g' t1' st' t2' t3' s' d0 d1 b1 b2 H3 => ?_
  obtain ⟨d, rfl⟩ := Int.eq_ofNat_of_zero_le d0
  refine k d t s' d1 ((H3.weak fun o ho => ?_).perm h2.symm)
  exact ⟨ca, cells, g', st', pl + 1, t1', t2', t3', ho, hc, hcz, hi, b1, b2, by omega, by push_cast; omega⟩

inductive Del (a : Addr) (P : Obj → Prop) : List (Addr × (Obj → Prop)) → List (Addr × (Obj → Prop)) → Prop
  | head {r} : Del a P ((a, P) :: r) r
  | tail {p r r'} : Del a P r r' → Del a P (p :: r) (p :: r')
theorem Del.perm {a : Addr} {P : Obj → Prop} {W W' : List (Addr × (Obj → Prop))} (h : Del a P W W') : W.Perm ((a, P) :: W') := by
  induction h with
  | head => exact .refl _
  | tail _ ih => exact (ih.cons _).trans (List.Perm.swap _ _ _)
theorem St.freezeD {c : Fix} {Z : List (Addr × Obj)} {W W' : List (Addr × (Obj → Prop))} {s : Shared} {a : Addr} {P : Obj → Prop} (H : St c Z W s) (h : Del a P W W') : ∃ o, P o ∧ St c ((a, o) :: Z) W' s :=
  let ⟨o, h1, _, h2⟩ := (H.perm h.perm).freeze; ⟨o, h1, h2⟩
theorem St.weakR {c : Fix} {Z : List (Addr × Obj)} {W W' : List (Addr × (Obj → Prop))} {s : Shared} {a : Addr} {P P' : Obj → Prop} (H : St c Z W s) (hr : Rep a P P' W W') (h : ∀ o, P o → P' o) : St c Z W' s := by
  obtain ⟨V, h1, h2⟩ := hr.perm
  exact ((H.perm h1).weak h).perm h2.symm
theorem POOL.mono {Z0 : List (Addr × Obj)} {b b' : Nat} {o : Obj} (h : POOL Z0 b o) (hb : b ≤ b') : POOL Z0 b' o := by
  obtain ⟨ca, cells, g, st, pl, t1, t2, t3, h1, h2, h3, h4, h5, h6, h7, h8⟩ := h
  exact ⟨ca, cells, g, st, pl, t1, t2, t3, h1, h2, h3, h4, h5, h6, h7, by omega⟩
theorem t_strs {c : Fix} {s : Shared} {A : Around} {E Q : Value → Shared → Prop} {l : Addr} {xs : List Value} {ys : List Str} {j : Nat} {t : Tok} {value slice : Expr} (hl : ∃ o, s.heap.get? l = some o ∧ LIST xs o) (hi : StrsAre xs ys) (hj : j < ys.length) (hz : ys.length ≤ 100) (k : ∀ y u, Q (.str y u) s)
    (hs : subscripted slice false (.ref l) (.int (j : Int) t) = operate [.ref l, .int (j : Int) t] (getItem (.ref l) (.int (j : Int) t)) := by rfl) : wpAny (model PG c.w) A (subscriptTail value slice (.ref l) (.int (j : Int) t)) Q E s := by
  obtain ⟨u, e⟩ := strs_at hi (List.getElem?_eq_getElem hj)
  exact t_nat hl e (by omega) (k _ _) hs
set_option maxRecDepth 100000
set_option maxHeartbeats 400000
section
variable {c : Fix} {Z : List (Addr × Obj)} {W : List (Addr × (Obj → Prop))} {s : Shared} {A : Around} {E : Value → Shared → Prop} {Q : Value → Shared → Prop}
  {ga : Addr} {R : Rls} {n tc : Nat} {i : Int} {t : Tok}
theorem symcount_spec (H : St c Z W s) (hA : Am A 2) (hg : GRAM Z ga R n tc) (k : ∀ t s', St c Z W s' → Q (.int n t) s') : wpAny (model PG c.w) A (call (.ref 136) [.ref ga]) Q E s := by
  obtain ⟨dga, na, ra, ba, oa, wa, mg, nv, rv, bv, ov, wv, tt, g⟩ := hg
  obtain ⟨g1, g2, g3, g4, g5, g6, g7, g8, g9, g10, g11, g12, g13, g14, g15, g16, g17, g18, g19, g20, g21, g22, g23, g24, g25, g26, g27, g28⟩ := g
  have w1 := g28.rules
  have w2 := g28.items
  have w3 := g28.syms
  have w4 := g28.terms
  refine' wpAny_call (enter (binds := [(Str.ofString "self", .ref ga)]) H hA ?ho ?hcd ?hb ?hloc ?hcell ?h1 ?h2 ?h3 ?h4)
  walk_at "ent"
  intro L s₁ H₁
  rw [ms_lookup] at H₁
  simp only [List.reverse_cons, List.reverse_nil, List.nil_append, List.cons_append, ms] at H₁
  clear H
  repeat walk_at "w"
  rw [g17]
  exact k _ _ (St.tail (by assumption))
theorem terminal_spec (H : St c Z W s) (hA : Am A 2) (hg : GRAM Z ga R n tc) (k : ∀ s', St c Z W s' → Q (.bool (decide (i < tc))) s') : wpAny (model PG c.w) A (call (.ref 143) [.ref ga, .int i t]) Q E s := by
  obtain ⟨dga, na, ra, ba, oa, wa, mg, nv, rv, bv, ov, wv, tt, g⟩ := hg
  obtain ⟨g1, g2, g3, g4, g5, g6, g7, g8, g9, g10, g11, g12, g13, g14, g15, g16, g17, g18, g19, g20, g21, g22, g23, g24, g25, g26, g27, g28⟩ := g
  have w1 := g28.rules
  have w2 := g28.items
  have w3 := g28.syms
  have w4 := g28.terms
  refine' wpAny_call (enter (binds := [(Str.ofString "self", .ref ga), (Str.ofString "symbol", .int i t)]) H hA ?ho ?hcd ?hb ?hloc ?hcell ?h1 ?h2 ?h3 ?h4)
  walk_at "ent"
  intro L s₁ H₁
  rw [ms_lookup] at H₁
  simp only [List.reverse_cons, List.reverse_nil, List.nil_append, List.cons_append, ms] at H₁
  clear H
  repeat walk_at "w"
  exact k _ (St.tail (by assumption))
theorem rulesof_spec {j : Nat} {t : Tok} (H : St c Z W s) (hA : Am A 2) (hg : GRAM Z ga R n tc) (hj : j < n) (k : ∀ a xs s', IntsAre xs (nats (byl R j)) → St c Z ((a, LIST xs) :: W) s' → Q (.ref a) s') : wpAny (model PG c.w) A (call (.ref 164) [.ref ga, .int j t]) Q E s := by
  obtain ⟨dga, na, ra, ba, oa, wa, mg, nv, rv, bv, ov, wv, tt, g⟩ := hg
  obtain ⟨g1, g2, g3, g4, g5, g6, g7, g8, g9, g10, g11, g12, g13, g14, g15, g16, g17, g18, g19, g20, g21, g22, g23, g24, g25, g26, g27, g28⟩ := g
  have w1 := g28.rules
  have w2 := g28.items
  have w3 := g28.syms
  have w4 := g28.terms
  obtain ⟨ja, xs, e1, e2, e3⟩ := g23 j hj
  have hx := nats_len e3
  have hb : (byl R j).length ≤ R.length := by unfold byl; have := List.length_filter_le (fun i => decide (left R i = j)) (List.range R.length); simpa using this
  refine' wpAny_call (enter (binds := [(Str.ofString "self", .ref ga), (Str.ofString "symbol", .int j t)]) H hA ?ho ?hcd ?hb ?hloc ?hcell ?h1 ?h2 ?h3 ?h4)
  walk_at "ent"
  intro L s₁ H₁
  rw [ms_lookup] at H₁
  simp only [List.reverse_cons, List.reverse_nil, List.nil_append, List.cons_append, ms] at H₁
  clear H
  repeat walk_at "w"
  exact k _ _ _ e3 (St.swap (by assumption)).tail
theorem item_spec {j : Nat} {d : Int} {t u : Tok} (H : St c Z W s) (hA : Am A 2) (hg : GRAM Z ga R n tc) (hj : j < R.length) (k : ∀ t s', St c Z W s' → Q (.int (offN R j + d) t) s') : wpAny (model PG c.w) A (call (.ref 171) [.ref ga, .int j t, .int d u]) Q E s := by
  obtain ⟨dga, na, ra, ba, oa, wa, mg, nv, rv, bv, ov, wv, tt, g⟩ := hg
  obtain ⟨g1, g2, g3, g4, g5, g6, g7, g8, g9, g10, g11, g12, g13, g14, g15, g16, g17, g18, g19, g20, g21, g22, g23, g24, g25, g26, g27, g28⟩ := g
  have w1 := g28.rules
  have w2 := g28.items
  have w3 := g28.syms
  have w4 := g28.terms
  obtain ⟨t', e⟩ := nats_get g25 (j := j) (k := offN R j) (by simp [hj])
  refine' wpAny_call (enter (binds := [(Str.ofString "self", .ref ga), (Str.ofString "rule", .int j t), (Str.ofString "dot", .int d u)]) H hA ?ho ?hcd ?hb ?hloc ?hcell ?h1 ?h2 ?h3 ?h4)
  walk_at "ent"
  intro L s₁ H₁
  rw [ms_lookup] at H₁
  simp only [List.reverse_cons, List.reverse_nil, List.nil_append, List.cons_append, ms] at H₁
  clear H
  repeat walk_at "w"
  exact k _ _ (St.tail (by assumption))
theorem item0_spec {j : Nat} {t u : Tok} (H : St c Z W s) (hA : Am A 2) (hg : GRAM Z ga R n tc) (hj : j < R.length) (k : ∀ t s', St c Z W s' → Q (.int (offN R j) t) s') : wpAny (model PG c.w) A (call (.ref 171) [.ref ga, .int j t, .int 0 u]) Q E s :=
  item_spec H hA hg hj fun t s' H' => by rw [Int.add_zero]; exact k t s' H'
theorem ruleof_spec {j : Nat} {t : Tok} (H : St c Z W s) (hA : Am A 2) (hg : GRAM Z ga R n tc) (hj : j < nit R) (k : ∀ t s', St c Z W s' → Q (.int (rul R j) t) s') : wpAny (model PG c.w) A (call (.ref 178) [.ref ga, .int j t]) Q E s := by
  obtain ⟨dga, na, ra, ba, oa, wa, mg, nv, rv, bv, ov, wv, tt, g⟩ := hg
  obtain ⟨g1, g2, g3, g4, g5, g6, g7, g8, g9, g10, g11, g12, g13, g14, g15, g16, g17, g18, g19, g20, g21, g22, g23, g24, g25, g26, g27, g28⟩ := g
  have w1 := g28.rules
  have w2 := g28.items
  have w3 := g28.syms
  have w4 := g28.terms
  obtain ⟨i1, i2, i3, i4⟩ := item_at hj
  obtain ⟨t', e⟩ := nats_get g27 i1
  refine' wpAny_call (enter (binds := [(Str.ofString "self", .ref ga), (Str.ofString "item", .int j t)]) H hA ?ho ?hcd ?hb ?hloc ?hcell ?h1 ?h2 ?h3 ?h4)
  walk_at "ent"
  intro L s₁ H₁
  rw [ms_lookup] at H₁
  simp only [List.reverse_cons, List.reverse_nil, List.nil_append, List.cons_append, ms] at H₁
  clear H
  repeat walk_at "w"
  exact k _ _ (St.tail (by assumption))
theorem dotof_spec {j : Nat} {t : Tok} (H : St c Z W s) (hA : Am A 2) (hg : GRAM Z ga R n tc) (hj : j < nit R) (k : ∀ t s', St c Z W s' → Q (.int (dot R j) t) s') : wpAny (model PG c.w) A (call (.ref 185) [.ref ga, .int j t]) Q E s := by
  obtain ⟨dga, na, ra, ba, oa, wa, mg, nv, rv, bv, ov, wv, tt, g⟩ := hg
  obtain ⟨g1, g2, g3, g4, g5, g6, g7, g8, g9, g10, g11, g12, g13, g14, g15, g16, g17, g18, g19, g20, g21, g22, g23, g24, g25, g26, g27, g28⟩ := g
  have w1 := g28.rules
  have w2 := g28.items
  have w3 := g28.syms
  have w4 := g28.terms
  obtain ⟨i1, i2, i3, i4⟩ := item_at hj
  obtain ⟨t', e⟩ := nats_get g27 i1
  obtain ⟨t2, e2⟩ := nats_get g25 (j := rul R j) (k := offN R (rul R j)) (by simp [i2])
  refine' wpAny_call (enter (binds := [(Str.ofString "self", .ref ga), (Str.ofString "item", .int j t)]) H hA ?ho ?hcd ?hb ?hloc ?hcell ?h1 ?h2 ?h3 ?h4)
  walk_at "ent"
  intro L s₁ H₁
  rw [ms_lookup] at H₁
  simp only [List.reverse_cons, List.reverse_nil, List.nil_append, List.cons_append, ms] at H₁
  clear H
  repeat walk_at "w"
  have e3 : ((j : Int) - (offN R (rul R j) : Int)) = (dot R j : Int) := by unfold dot; omega
  rw [e3]
  exact k _ _ (St.tail (by assumption))
theorem after_spec {j : Nat} {t : Tok} (H : St c Z W s) (hA : Am A 2) (hg : GRAM Z ga R n tc) (hj : j < nit R) (k : ∀ t s', St c Z W s' → Q (.int (aft R j) t) s') : wpAny (model PG c.w) A (call (.ref 192) [.ref ga, .int j t]) Q E s := by
  obtain ⟨dga, na, ra, ba, oa, wa, mg, nv, rv, bv, ov, wv, tt, g⟩ := hg
  obtain ⟨g1, g2, g3, g4, g5, g6, g7, g8, g9, g10, g11, g12, g13, g14, g15, g16, g17, g18, g19, g20, g21, g22, g23, g24, g25, g26, g27, g28⟩ := g
  have w1 := g28.rules
  have w2 := g28.items
  have w3 := g28.syms
  have w4 := g28.terms
  obtain ⟨i1, i2, i3, i4⟩ := item_at hj
  obtain ⟨t', e⟩ := nats_get g27 i1
  obtain ⟨t2, e2⟩ := nats_get g25 (j := rul R j) (k := offN R (rul R j)) (by simp [i2])
  obtain ⟨ja, dx, ta, m, t3, t4, xs, e3, r1, r2, r3, r4, r5, r6, r7⟩ := g20 (rul R j) i2
  have e4 : R[rul R j].2 = right R (rul R j) := by unfold right; simp [i2]
  rw [e4] at r7
  have hx : xs.length = (right R (rul R j)).length := r7.length
  have hb := offN_lt (R := R) (j := rul R j) i2 (Nat.le_refl _)
  have e5 : ((j : Int) - (offN R (rul R j) : Int)) = (dot R j : Int) := by unfold dot; omega
  refine' wpAny_call (enter (binds := [(Str.ofString "self", .ref ga), (Str.ofString "item", .int j t)]) H hA ?ho ?hcd ?hb ?hloc ?hcell ?h1 ?h2 ?h3 ?h4)
  walk_at "ent"
  intro L s₁ H₁
  rw [ms_lookup] at H₁
  simp only [List.reverse_cons, List.reverse_nil, List.nil_append, List.cons_append, ms] at H₁
  clear H
  repeat walk_at "w"
  rw [e5]
  refine if_dec (fun hlt => ?_) (fun hlt => ?_)
  · have hl : dot R j < (right R (rul R j)).length := by omega
    obtain ⟨t5, e6⟩ := ints_at r7 (List.getElem?_eq_getElem hl)
    have e7 : aft R j = (right R (rul R j))[dot R j] := by unfold aft; simp [hl]
    simp only [e5] at *
    repeat walk_at "w"
    rw [← e7]
    exact k _ _ (St.tail (by assumption))
  · have e7 : aft R j = -1 := by unfold aft; rw [List.getD_eq_getElem?_getD, List.getElem?_eq_none (by omega)]; rfl
    repeat walk_at "w"
    rw [← e7]
    exact k _ _ (St.tail (by assumption))
end
set_option maxRecDepth 100000
set_option maxHeartbeats 400000
def fo (bs : List Bool) (F : List Int) : List Int → Int → Int × Bool
  | [], m => (m, true)
  | x :: r, m => if bs.getD x.toNat false = true then fo bs F r (Builtin.bitOr m (F.getD x.toNat 0)) else (Builtin.bitOr m (F.getD x.toNat 0), false)
theorem fo_cons {bs : List Bool} {F r : List Int} {x m : Int} : fo bs F (x :: r) m = if bs.getD x.toNat false = true then fo bs F r (Builtin.bitOr m (F.getD x.toNat 0)) else (Builtin.bitOr m (F.getD x.toNat 0), false) := rfl
theorem fo_nil {bs : List Bool} {F : List Int} {m : Int} : fo bs F [] m = (m, true) := rfl
section
variable {c : Fix} {Z : List (Addr × Obj)} {W : List (Addr × (Obj → Prop))} {s : Shared} {A : Around} {E : Value → Shared → Prop} {Q : Value → Shared → Prop}
theorem firstof_spec {bs : List Bool} {F r : List Int} {sa na fa : Addr} {xs fv : List Value} (H : St c Z W s) (hA : Am A 2) (hs : At Z W sa (TUP xs)) (hr : IntsAre xs r) (hn : At Z W na (LIST (bs.map Value.bool))) (hf : At Z W fa (LIST fv)) (hF : IntsAre fv F)
    (hin : ∀ x ∈ r, 0 ≤ x ∧ x < bs.length ∧ x < F.length) (hz : bs.length ≤ 1000) (hz2 : F.length ≤ 1000)
    (k : ∀ a t s', St c Z ((a, TUP [.int (fo bs F r 0).1 t, .bool (fo bs F r 0).2]) :: W) s' → Q (.ref a) s') : wpAny (model PG c.w) A (call (.ref 40) [.ref sa, .ref na, .ref fa]) Q E s := by
  have hh : A.handled = none := hA.hh
  refine' wpAny_call (enter (binds := [(Str.ofString "symbols", .ref sa), (Str.ofString "nullables", .ref na), (Str.ofString "firsts", .ref fa)]) H hA ?ho ?hcd ?hb ?hloc ?hcell ?h1 ?h2 ?h3 ?h4)
  walk_at "ent"
  intro L s₁ H₁
  rw [ms_lookup] at H₁
  simp only [List.reverse_cons, List.reverse_nil, List.nil_append, List.cons_append, ms] at H₁
  clear H
  repeat walk_at "w"
  rename St _ _ _ _ => H₂
  have hlen := hr.length
  refine fg_tup (xs := xs) (fun i Z' W' => Z' = Z ∧ ∃ m mask t, A5 (W' = (L, NS m) :: W) (m (Str.ofString "nullables") = some (.ref na)) (m (Str.ofString "firsts") = some (.ref fa)) (m (Str.ofString "mask") = some (.int mask t)) (fo bs F (r.drop i) mask = fo bs F r 0))
    H₂ hh ⟨rfl, _, _, _, rfl, by walk_at "lk", by walk_at "lk", by walk_at "lk", rfl⟩ ?_ (.inl fun _ _ => rfl) ?_ ?_
  · rintro i Z' W' hi ⟨rfl, m, mask, t, rfl, -⟩
    exact hs.cons
  · rintro it i v Z' W' s' QT hi hv ⟨rfl, m, mask, t, rfl, m1, m2, m3, hm⟩ H'
    have hi' : i < r.length := by omega
    obtain ⟨u, e⟩ := ints_at hr (List.getElem?_eq_getElem hi')
    obtain rfl : v = .int r[i] u := Option.some.inj (hv.symm.trans e)
    obtain ⟨b1, b2, b3⟩ := hin _ (List.getElem_mem hi')
    have hd : r.drop i = r[i] :: r.drop (i + 1) := List.drop_eq_getElem_cons hi'
    rw [hd] at hm
    generalize r[i] = y at b1 b2 b3 hm
    obtain ⟨x, rfl⟩ := Int.eq_ofNat_of_zero_le b1
    rw [fo_cons, Int.toNat_natCast] at hm
    have n1 : (bs.map Value.bool)[x]? = some (.bool (bs.getD x false)) := by
      have : x < bs.length := by omega
      simp [this]
    have f0 : x < F.length := by omega
    obtain ⟨u2, f1⟩ := ints_at hF (List.getElem?_eq_getElem f0)
    have f2 : F.getD x 0 = F[x] := by simp [f0]
    rw [f2] at hm
    clear H₂
    repeat walk_at "w"
    refine if_bool (fun hb => ?_) (fun hb => ?_)
    · rw [if_pos hb] at hm
      repeat walk_at "w"
      exact ⟨_, _, by assumption, _, rfl, rfl, _, _, _, rfl, by walk_at "lk", by walk_at "lk", by walk_at "lk", hm⟩
    · rw [if_neg (by rw [hb]; simp)] at hm
      repeat walk_at "w"
      refine' k _ _ _ ?hk
      case hk => rw [← hm]; exact St.sub (by assumption) (List.Sublist.cons_cons _ (List.Sublist.cons _ (List.Sublist.cons _ (List.Sublist.refl _))))
  · rintro Z' W' s' ⟨rfl, m, mask, t, rfl, m1, m2, m3, hm⟩ H'
    rw [List.drop_eq_nil_of_le (by omega)] at hm
    rw [fo_nil] at hm
    clear H₂
    repeat walk_at "w"
    refine' k _ _ _ ?hk
    case hk => rw [← hm]; exact St.sub (by assumption) (List.Sublist.cons_cons _ (List.Sublist.cons _ (List.Sublist.refl _)))
end
set_option compiler.extract_closed false
local macro_rules | `(tactic| walk_at "spec") => `(tactic| ((with_reducible rename St _ _ _ _ => HH); first
  | ((with_reducible refine' after_spec HH ?a1 ?a2 ?a3 (fun t s' H' => ?_)); (case a1 => walk_at "am"); (case a2 => assumption); (case a3 => first | assumption | omega); clear HH)
  | ((with_reducible refine' symcount_spec HH ?a1 ?a2 (fun t s' H' => ?_)); (case a1 => walk_at "am"); (case a2 => assumption); clear HH)
  | ((with_reducible refine' terminal_spec HH ?a1 ?a2 (fun s' H' => ?_)); (case a1 => walk_at "am"); (case a2 => assumption); clear HH)
  | ((with_reducible refine' rulesof_spec HH ?a1 ?a2 ?a3 (fun a xs s' hi H' => ?_)); (case a1 => walk_at "am"); (case a2 => assumption); (case a3 => first | assumption | omega); clear HH)
  | ((with_reducible refine' item0_spec HH ?a1 ?a2 ?a3 (fun t s' H' => ?_)); (case a1 => walk_at "am"); (case a2 => assumption); (case a3 => first | assumption | omega); clear HH)
  | ((with_reducible refine' item_spec HH ?a1 ?a2 ?a3 (fun t s' H' => ?_)); (case a1 => walk_at "am"); (case a2 => assumption); (case a3 => first | assumption | omega); clear HH)
  | ((with_reducible refine' ruleof_spec HH ?a1 ?a2 ?a3 (fun t s' H' => ?_)); (case a1 => walk_at "am"); (case a2 => assumption); (case a3 => first | assumption | omega); clear HH)
  | ((with_reducible refine' dotof_spec HH ?a1 ?a2 ?a3 (fun t s' H' => ?_)); (case a1 => walk_at "am"); (case a2 => assumption); (case a3 => first | assumption | omega); clear HH)
))
local macro_rules | `(tactic| walk_at "del") => `(tactic| first | exact Del.head | (apply Del.tail; walk_at "del"))
local macro_rules | `(tactic| walk_at "w") => `(tactic| first | walk_at "syn" | walk_at "name" | walk_at "leaf" | walk_at "ctl" | walk_at "spec")
set_option compiler.extract_closed true
/-! the closure over naturals -/
theorem bitOr_nat (a b : Nat) : Builtin.bitOr (a : Int) (b : Int) = ((a ||| b : Nat) : Int) := by
  have h1 : Builtin.bitNot (a : Int) = -(a : Int) - 1 := rfl
  have h2 : Builtin.bitNot (b : Int) = -(b : Int) - 1 := rfl
  have d1 : decide (0 ≤ Builtin.bitNot (a : Int)) = false := by rw [h1]; simp; omega
  have d2 : decide (0 ≤ Builtin.bitNot (b : Int)) = false := by rw [h2]; simp; omega
  have n1 : (Builtin.bitNot (Builtin.bitNot (a : Int))).toNat = a := by unfold Builtin.bitNot; omega
  have n2 : (Builtin.bitNot (Builtin.bitNot (b : Int))).toNat = b := by unfold Builtin.bitNot; omega
  unfold Builtin.bitOr Builtin.bitAnd
  rw [d1, d2]
  dsimp only
  rw [n1, n2]
  unfold Builtin.bitNot
  omega
theorem bitSub_nat (a b : Nat) : Builtin.bitAnd (a : Int) (Builtin.bitNot (b : Int)) = (a : Int) - ((a &&& b : Nat) : Int) := by
  have d1 : decide (0 ≤ (a : Int)) = true := by simp
  have d2 : decide (0 ≤ Builtin.bitNot (b : Int)) = false := by show decide (0 ≤ -(b : Int) - 1) = false; simp; omega
  have n2 : (Builtin.bitNot (Builtin.bitNot (b : Int))).toNat = b := by unfold Builtin.bitNot; omega
  unfold Builtin.bitAnd
  rw [d1, d2]
  dsimp only
  rw [n2]
  simp

abbrev NM := List (Nat × Nat)
def nv (kv : NM) (k : Nat) : Option Nat := (kv.find? fun p => p.1 = k).map (·.2)
def nst (kv : NM) (k m : Nat) : NM := if kv.any (fun p => p.1 = k) then kv.map (fun p => if p.1 = k then (p.1, m) else p) else kv ++ [(k, m)]
def zz (kv : NM) : List (Int × Int) := kv.map fun p => ((p.1 : Int), (p.2 : Int))
theorem iv_zz (kv : NM) (k : Nat) : iv (zz kv) k = (nv kv k).map fun m => (m : Int) := by
  unfold iv nv zz
  induction kv with
  | nil => rfl
  | cons p kv ih =>
    by_cases h : p.1 = k
    · simp [h]
    · have h2 : ¬ ((p.1 : Int) = (k : Int)) := by omega
      simpa [h, h2] using ih
theorem any_zz (kv : NM) (k : Nat) : (zz kv).any (fun p => p.1 = (k : Int)) = kv.any (fun p => p.1 = k) := by
  unfold zz
  induction kv with
  | nil => rfl
  | cons p kv ih =>
    simp only [List.map_cons, List.any_cons, ih]
    congr 1
    by_cases h : p.1 = k
    · simp [h]
    · have h2 : ¬ ((p.1 : Int) = (k : Int)) := by omega
      simp [h, h2]
theorem ist_zz (kv : NM) (k m : Nat) : ist (zz kv) k m = zz (nst kv k m) := by
  unfold ist nst
  rw [any_zz]
  split
  · unfold zz
    rw [List.map_map, List.map_map]
    refine List.map_congr_left fun p _ => ?_
    simp only [Function.comp]
    by_cases h : p.1 = k
    · simp [h]
    · have h2 : ¬ ((p.1 : Int) = (k : Int)) := by omega
      simp [h, h2]
  · simp [zz]
def keys (kv : NM) : List Nat := kv.map (·.1)
theorem keys_zz (kv : NM) : (zz kv).map (·.1) = nats (keys kv) := by unfold zz nats keys; rw [List.map_map, List.map_map]; rfl
theorem nv_some {kv : NM} {k : Nat} : (∃ m, nv kv k = some m) ↔ k ∈ keys kv := by
  unfold nv keys
  induction kv with
  | nil => simp
  | cons p kv ih =>
    by_cases h : p.1 = k
    · simp [h]
    · have h3 : ¬ k = p.1 := fun e => h e.symm
      simpa [h, h3] using ih
theorem nv_none {kv : NM} {k : Nat} : nv kv k = none ↔ k ∉ keys kv := by
  rw [← nv_some]
  cases nv kv k <;> simp
theorem any_key {kv : NM} {k : Nat} : kv.any (fun p => p.1 = k) = true ↔ k ∈ keys kv := by
  unfold keys
  rw [List.any_eq_true, List.mem_map]
  simp
theorem nst_new {kv : NM} {k m : Nat} (h : k ∉ keys kv) : nst kv k m = kv ++ [(k, m)] := by
  unfold nst; rw [if_neg (fun e => h (any_key.mp e))]
theorem keys_old {kv : NM} {k m : Nat} (h : k ∈ keys kv) : keys (nst kv k m) = keys kv := by
  unfold nst; rw [if_pos (any_key.mpr h)]
  unfold keys
  rw [List.map_map]
  refine List.map_congr_left fun p _ => ?_
  simp only [Function.comp]
  split <;> rfl
theorem keys_new {kv : NM} {k m : Nat} (h : k ∉ keys kv) : keys (nst kv k m) = keys kv ++ [k] := by rw [nst_new h]; simp [keys]
theorem nv_put {kv : NM} {k m k' : Nat} : nv (nst kv k m) k' = if k' = k then some m else nv kv k' := by
  by_cases h : k ∈ keys kv
  · unfold nst
    rw [if_pos (any_key.mpr h)]
    unfold keys at h
    induction kv with
    | nil => simp at h
    | cons p kv ih =>
      unfold nv at *
      simp only [List.map_cons, List.find?_cons]
      by_cases hp : p.1 = k
      · simp only [hp, if_true]
        by_cases hk : k' = k
        · simp [hk]
        · have : ¬ k = k' := fun e => hk e.symm
          simp only [this, decide_false, if_neg hk]
          clear ih h
          induction kv with
          | nil => rfl
          | cons q kv ih2 =>
            simp only [List.map_cons, List.find?_cons]
            by_cases hq : q.1 = k
            · have h5 : ¬ q.1 = k' := by omega
              simp only [hq, if_true, h5, this, decide_false]
              exact ih2
            · simp only [if_neg hq]
              by_cases h5 : q.1 = k'
              · simp [h5]
              · simp only [h5, decide_false]
                exact ih2
      · have h6 : k ∈ kv.map (·.1) := by
          simp only [List.map_cons, List.mem_cons] at h
          rcases h with h | h
          · exact absurd h.symm hp
          · exact h
        simp only [if_neg hp]
        by_cases hk : p.1 = k'
        · have : ¬ k' = k := by omega
          simp [hk, this]
        · simp only [hk, decide_false]
          exact ih h6
  · rw [nst_new h]
    unfold nv
    rw [List.find?_append]
    by_cases hk : k' = k
    · subst hk
      have := nv_none.mpr h
      unfold nv at this
      simp only [Option.map_eq_none_iff] at this
      rw [this]
      simp
    · have : ¬ k = k' := fun e => hk e.symm
      simp [this, if_neg hk]
theorem nodup_put {kv : NM} {k m : Nat} (h : (keys kv).Nodup) : (keys (nst kv k m)).Nodup := by
  by_cases hk : k ∈ keys kv
  · rw [keys_old hk]; exact h
  · rw [keys_new hk, List.nodup_append]
    exact ⟨h, by simp, fun a ha b hb e => by simp at hb; subst hb; subst e; exact hk ha⟩
theorem dictOf_nodup : ∀ (kv acc : NM), (keys (acc ++ kv)).Nodup → (zz kv).foldl (fun a p => ist a p.1 p.2) (zz acc) = zz (acc ++ kv)
  | [], acc, _ => by simp [zz]
  | p :: kv, acc, h => by
    have hk : p.1 ∉ keys acc := by
      unfold keys at h ⊢
      rw [List.map_append, List.map_cons, List.nodup_append] at h
      exact fun hm => h.2.2 _ hm _ (List.mem_cons_self ..) rfl
    show (zz kv).foldl _ (ist (zz acc) (p.1 : Int) (p.2 : Int)) = _
    rw [ist_zz, nst_new hk, dictOf_nodup kv (acc ++ [(p.1, p.2)]) (by simpa using h)]
    simp
theorem dictOfPairs_zz {kv : NM} (h : (keys kv).Nodup) : dictOfPairs (zz kv) = zz kv := by
  have := dictOf_nodup kv [] (by simpa using h)
  simpa [dictOfPairs, zz] using this

def foN (bs : List Bool) (F : List Nat) : List Int → Nat → Nat × Bool
  | [], m => (m, true)
  | x :: r, m => if bs.getD x.toNat false = true then foN bs F r (m ||| F.getD x.toNat 0) else (m ||| F.getD x.toNat 0, false)
theorem fo_nat (bs : List Bool) (F : List Nat) : ∀ (r : List Int) (m : Nat), fo bs (nats F) r m = (((foN bs F r m).1 : Int), (foN bs F r m).2)
  | [], m => rfl
  | x :: r, m => by
    have e : (nats F).getD x.toNat 0 = ((F.getD x.toNat 0 : Nat) : Int) := by
      unfold nats
      by_cases h : x.toNat < F.length
      · simp [h]
      · simp [Nat.le_of_not_lt h]
    rw [fo_cons, e, bitOr_nat]
    unfold foN
    split
    · exact fo_nat bs F r _
    · rfl

theorem fo_nat0 (bs : List Bool) (F : List Nat) (r : List Int) : fo bs (nats F) r 0 = (((foN bs F r 0).1 : Int), (foN bs F r 0).2) := fo_nat bs F r 0
/-- one rule begun -/
def bump (m : Nat) (st : NM × List Nat) (b : Nat) : NM × List Nat := match nv st.1 b with
  | none => (nst st.1 b m, st.2 ++ [b])
  | some k => if k ||| m ≠ k then (nst st.1 b (k ||| m), st.2 ++ [b]) else st
/-- the terminals that an item hands on -/
def hand (R : Rls) (bs : List Bool) (F : List Nat) (it m : Nat) : Nat :=
  let f := foN bs F ((right R (rul R it)).drop (dot R it + 1)) 0
  if f.2 = true then f.1 ||| m else f.1
def targets (R : Rls) (it : Nat) : List Nat := (byl R (aft R it)).map (offN R)
abbrev quiet (R : Rls) (tc : Nat) (it : Nat) : Prop := aft R it < tc
def stepN (R : Rls) (tc : Nat) (bs : List Bool) (F : List Nat) (kv : NM) (q : List Nat) (it : Nat) : NM × List Nat :=
  if quiet R tc it then (kv, q) else (targets R it).foldl (bump (hand R bs F it ((nv kv it).getD 0))) (kv, q)
inductive Runs (R : Rls) (tc : Nat) (bs : List Bool) (F : List Nat) : NM × List Nat → NM → Prop
  | done (kv : NM) : Runs R tc bs F (kv, []) kv
  | step {kv q it kv'} : Runs R tc bs F (stepN R tc bs F kv q it) kv' → Runs R tc bs F (kv, q ++ [it]) kv'
def pc (k : Nat) : Nat := ((List.range 50).map fun i => (k.testBit i).toNat).sum
def wt : Option Nat → Nat
  | none => 0
  | some k => pc k + 1
def TOP : Nat := 2 ^ 50
def begins (R : Rls) : List Nat := (List.range R.length).map (offN R)
def pot (R : Rls) (kv : NM) : Nat := ((begins R).map fun b => 52 - wt (nv kv b)).sum
structure Good (R : Rls) (kv : NM) (q : List Nat) : Prop where
  nodup : (keys kv).Nodup
  lt : ∀ k m, nv kv k = some m → m < TOP
  items : ∀ k ∈ keys kv, k < nit R
  queue : ∀ k ∈ q, k ∈ keys kv
theorem or_top {a b : Nat} (h1 : a < TOP) (h2 : b < TOP) : a ||| b < TOP := Nat.or_lt_two_pow h1 h2
theorem sum_le {l : List Nat} {f g : Nat → Nat} (h : ∀ x ∈ l, f x ≤ g x) : (l.map f).sum ≤ (l.map g).sum := by
  induction l with
  | nil => simp
  | cons x l ih =>
    have h1 := h x (List.mem_cons_self ..)
    have h2 := ih fun y hy => h y (.tail _ hy)
    simp only [List.map_cons, List.sum_cons]
    omega
theorem sum_lt {l : List Nat} {f g : Nat → Nat} (h : ∀ x ∈ l, f x ≤ g x) {b : Nat} (hb : b ∈ l) (hlt : f b < g b) : (l.map f).sum < (l.map g).sum := by
  induction l with
  | nil => cases hb
  | cons x l ih =>
    have h1 := h x (List.mem_cons_self ..)
    have h2 := sum_le (l := l) fun y hy => h y (.tail _ hy)
    simp only [List.map_cons, List.sum_cons]
    rcases List.mem_cons.mp hb with rfl | hb
    · omega
    · have := ih (fun y hy => h y (.tail _ hy)) hb
      omega
theorem keys_put_mem {kv : NM} {k m x : Nat} : x ∈ keys (nst kv k m) ↔ x = k ∨ x ∈ keys kv := by
  by_cases h : k ∈ keys kv
  · rw [keys_old h]
    constructor
    · exact .inr
    · rintro (rfl | h2)
      · exact h
      · exact h2
  · rw [keys_new h]; simp [or_comm]
theorem Good.put {R : Rls} {kv : NM} {q : List Nat} (h : Good R kv q) {b m : Nat} (hb : b < nit R) (hm : m < TOP) : Good R (nst kv b m) (q ++ [b]) := by
  refine ⟨nodup_put h.nodup, fun k m' e => ?_, fun k hk => ?_, fun k hk => ?_⟩
  · rw [nv_put] at e
    split at e
    · cases e; exact hm
    · exact h.lt _ _ e
  · rcases keys_put_mem.mp hk with rfl | hk
    · exact hb
    · exact h.items k hk
  · rcases List.mem_append.mp hk with hk | hk
    · exact keys_put_mem.mpr (.inr (h.queue k hk))
    · rw [List.mem_singleton.mp hk]; exact keys_put_mem.mpr (.inl rfl)
theorem pc_le (k : Nat) : pc k ≤ 50 := by
  have h := sum_le (l := List.range 50) (f := fun i => (k.testBit i).toNat) (g := fun _ => 1) (fun x _ => by cases k.testBit x <;> simp)
  have e : ((List.range 50).map fun _ => 1).sum = 50 := by decide
  unfold pc
  omega
theorem pot_put {R : Rls} {kv : NM} {b m : Nat} (hb : b ∈ begins R) (h : wt (nv kv b) < wt (some m)) : pot R (nst kv b m) < pot R kv := by
  have hp := pc_le m
  refine sum_lt (fun x hx => ?_) hb ?_
  · rw [nv_put]
    split
    · rename_i e; subst e; omega
    · exact Nat.le_refl _
  · rw [nv_put, if_pos rfl]; unfold wt at h ⊢; split <;> simp_all <;> omega
theorem or_grows {k m : Nat} (h : k ||| m ≠ k) (ht : k ||| m < TOP) : pc k < pc (k ||| m) := by
  obtain ⟨i, hi⟩ : ∃ i, (k ||| m).testBit i ≠ k.testBit i := by
    apply Classical.byContradiction
    intro hn
    exact h (Nat.eq_of_testBit_eq fun i => Classical.byContradiction fun q => hn ⟨i, q⟩)
  have h1 : (k ||| m).testBit i = true ∧ k.testBit i = false := by
    rw [Nat.testBit_or] at hi ⊢
    cases h1 : k.testBit i <;> cases h2 : m.testBit i <;> simp_all
  have hlt : i < 50 := by
    apply Classical.byContradiction
    intro hn
    have := Nat.testBit_lt_two_pow (x := k ||| m) (i := i) (Nat.lt_of_lt_of_le ht (Nat.pow_le_pow_right (by decide) (Nat.le_of_not_lt hn)))
    rw [h1.1] at this
    cases this
  refine sum_lt (b := i) (fun x _ => ?_) (by simpa using hlt) (by rw [h1.1, h1.2]; decide)
  rw [Nat.testBit_or]
  cases k.testBit x <;> cases m.testBit x <;> simp
theorem pot_le (R : Rls) (kv : NM) : pot R kv ≤ R.length * 52 := by
  have h := sum_le (l := begins R) (f := fun b => 52 - wt (nv kv b)) (g := fun _ => 52) (fun x _ => Nat.sub_le _ _)
  have e : ∀ l : List Nat, (l.map fun _ => 52).sum = l.length * 52 := by
    intro l
    induction l with
    | nil => rfl
    | cons x l ih => simp only [List.map_cons, List.sum_cons, List.length_cons, ih]; omega
  rw [e] at h
  unfold pot
  simpa [begins] using h
theorem begins_lt {R : Rls} {b : Nat} (h : b ∈ begins R) : b < nit R := by
  obtain ⟨j, hj, rfl⟩ := List.mem_map.mp h
  have := offN_lt (R := R) (j := j) (d := 0) (by simpa using hj) (Nat.zero_le _)
  omega
theorem bump_good {R : Rls} {st : NM × List Nat} (h : Good R st.1 st.2) {b m : Nat} (hb : b ∈ begins R) (hm : m < TOP) : Good R (bump m st b).1 (bump m st b).2 ∧ pot R (bump m st b).1 + (bump m st b).2.length ≤ pot R st.1 + st.2.length := by
  unfold bump
  cases e : nv st.1 b with
  | none =>
    have := pot_put (R := R) (kv := st.1) (m := m) hb (by rw [e]; exact Nat.succ_pos _)
    exact ⟨h.put (begins_lt hb) hm, by simp only [List.length_append, List.length_singleton]; omega⟩
  | some k =>
    dsimp only
    split
    · rename_i hne
      have hk := or_top (h.lt _ _ e) hm
      have := pot_put (R := R) (kv := st.1) (m := k ||| m) hb (by rw [e]; have := or_grows hne hk; show pc k + 1 < pc (k ||| m) + 1; omega)
      exact ⟨h.put (begins_lt hb) hk, by simp only [List.length_append, List.length_singleton]; omega⟩
    · exact ⟨h, Nat.le_refl _⟩
theorem foN_top {bs : List Bool} {F : List Nat} (hF : ∀ x ∈ F, x < TOP) : ∀ (r : List Int) (m : Nat), m < TOP → (foN bs F r m).1 < TOP
  | [], m, h => h
  | x :: r, m, h => by
    have e : F.getD x.toNat 0 < TOP := by
      by_cases hx : x.toNat < F.length
      · have : F.getD x.toNat 0 = F[x.toNat] := by simp [hx]
        rw [this]; exact hF _ (List.getElem_mem _)
      · have : F.getD x.toNat 0 = 0 := by simp [Nat.le_of_not_lt hx]
        rw [this]; exact Nat.two_pow_pos 50
    unfold foN
    split
    · exact foN_top hF r _ (or_top h e)
    · exact or_top h e
theorem hand_top {R : Rls} {bs : List Bool} {F : List Nat} (hF : ∀ x ∈ F, x < TOP) {it m : Nat} (hm : m < TOP) : hand R bs F it m < TOP := by
  unfold hand
  have := foN_top (bs := bs) hF ((right R (rul R it)).drop (dot R it + 1)) 0 (Nat.two_pow_pos 50)
  dsimp only
  split
  · exact or_top this hm
  · exact this
theorem targets_begin {R : Rls} {it b : Nat} (h : b ∈ targets R it) : b ∈ begins R := by
  obtain ⟨j, hj, rfl⟩ := List.mem_map.mp h
  exact List.mem_map.mpr ⟨j, by simpa using (byl_lt hj).1, rfl⟩
theorem fold_good {R : Rls} {m : Nat} (hm : m < TOP) : ∀ (l : List Nat) (st : NM × List Nat), Good R st.1 st.2 → (∀ b ∈ l, b ∈ begins R) → Good R (l.foldl (bump m) st).1 (l.foldl (bump m) st).2 ∧ pot R (l.foldl (bump m) st).1 + (l.foldl (bump m) st).2.length ≤ pot R st.1 + st.2.length
  | [], st, h, _ => ⟨h, Nat.le_refl _⟩
  | b :: l, st, h, hb => by
    obtain ⟨h1, h2⟩ := bump_good h (hb b (List.mem_cons_self ..)) hm
    obtain ⟨h3, h4⟩ := fold_good hm l _ h1 fun x hx => hb x (.tail _ hx)
    exact ⟨h3, Nat.le_trans h4 h2⟩
theorem Good.pop {R : Rls} {kv : NM} {q : List Nat} {it : Nat} (h : Good R kv (q ++ [it])) : Good R kv q := ⟨h.nodup, h.lt, h.items, fun k hk => h.queue k (List.mem_append_left _ hk)⟩
theorem step_good {R : Rls} {tc : Nat} {bs : List Bool} {F : List Nat} (hF : ∀ x ∈ F, x < TOP) {kv : NM} {q : List Nat} {it : Nat} (h : Good R kv (q ++ [it])) :
    Good R (stepN R tc bs F kv q it).1 (stepN R tc bs F kv q it).2 ∧ pot R (stepN R tc bs F kv q it).1 + (stepN R tc bs F kv q it).2.length < pot R kv + (q ++ [it]).length := by
  have hm : (nv kv it).getD 0 < TOP := by
    cases e : nv kv it with
    | none => exact Nat.two_pow_pos 50
    | some m => exact h.lt _ _ e
  have hl : (q ++ [it]).length = q.length + 1 := by simp
  unfold stepN
  split
  · exact ⟨h.pop, by rw [hl]; show pot R kv + q.length < _; omega⟩
  · obtain ⟨h1, h2⟩ := fold_good (hand_top (R := R) (bs := bs) hF (it := it) hm) (targets R it) (kv, q) h.pop fun b hb => targets_begin hb
    exact ⟨h1, by rw [hl]; dsimp only at h2; omega⟩
theorem sum_set (f : Nat → Nat) {a b : Nat} (hp : f b < f a) : ∀ (F : List Nat) (i : Nat), F[i]? = some a → ((F.set i b).map f).sum < (F.map f).sum := by
  intro F
  induction F with
  | nil => intro i h; simp at h
  | cons x F ih =>
    intro i h
    cases i with
    | zero =>
      simp at h
      subst h
      simp only [List.set_cons_zero, List.map_cons, List.sum_cons]
      omega
    | succ i =>
      have := ih i (by simpa using h)
      simp only [List.set_cons_succ, List.map_cons, List.sum_cons]
      omega
def mu (F : List Nat) : Nat := (F.map fun x => 50 - pc x).sum
theorem mu_set {F : List Nat} {i a b : Nat} (h : F[i]? = some a) (hp : pc a < pc b) : mu (F.set i b) < mu F :=
  sum_set (fun x => 50 - pc x) (by have := pc_le b; show 50 - pc b < 50 - pc a; omega) F i h
theorem IntsAre.set {vs : List Value} {ns : List Int} (h : IntsAre vs ns) : ∀ (i : Nat) (a : Int) (t : Tok), IntsAre (vs.set i (.int a t)) (ns.set i a) := by
  induction h with
  | nil => intro i a t; exact .nil
  | cons b u r ih =>
    intro i a t
    cases i with
    | zero => exact .cons a t r
    | succ i => exact .cons b u (ih i a t)
theorem nats_set {vs : List Value} {F : List Nat} (h : IntsAre vs (nats F)) (i a : Nat) (t : Tok) : IntsAre (vs.set i (.int (a : Int) t)) (nats (F.set i a)) := by
  have := IntsAre.set h i (a : Int) t
  unfold nats at *
  rw [List.map_set]
  exact this
/-! the plain law of the closure -/
def joinN (kv1 kv2 : NM) : NM := kv2.foldl (fun acc p => nst acc p.1 ((nv acc p.1).getD 0 ||| p.2)) kv1
structure Kern (R : Rls) (kv : NM) : Prop where
  nodup : (keys kv).Nodup
  ne : kv ≠ []
  len : kv.length ≤ 3
  items : ∀ k ∈ keys kv, k < nit R
  masks : ∀ k m, nv kv k = some m → m < 32
def sub (a b : Nat) : Prop := a ||| b = b
theorem sub_refl (a : Nat) : sub a a := Nat.or_self a
theorem sub_trans {a b d : Nat} (h1 : sub a b) (h2 : sub b d) : sub a d := by
  unfold sub at *
  rw [← h2, ← Nat.or_assoc, h1]
theorem sub_antisymm {a b : Nat} (h1 : sub a b) (h2 : sub b a) : a = b := by
  unfold sub at *
  exact (h2.symm.trans (Nat.or_comm b a)).trans h1
theorem sub_left (a b : Nat) : sub a (a ||| b) := by unfold sub; rw [← Nat.or_assoc, Nat.or_self]
theorem sub_right (a b : Nat) : sub b (a ||| b) := by unfold sub; rw [Nat.or_comm a b, ← Nat.or_assoc, Nat.or_self]
theorem sub_or {a b d : Nat} (h1 : sub a d) (h2 : sub b d) : sub (a ||| b) d := by
  unfold sub at *
  rw [Nat.or_assoc, h2, h1]
theorem sub_zero (a : Nat) : sub 0 a := Nat.zero_or a
theorem sub_mono {a b x y : Nat} (h1 : sub a x) (h2 : sub b y) : sub (a ||| b) (x ||| y) := sub_or (sub_trans h1 (sub_left _ _)) (sub_trans h2 (sub_right _ _))
theorem sub_full {a : Nat} (h : a < TOP) : sub a (TOP - 1) := by
  unfold sub
  apply Nat.eq_of_testBit_eq
  intro i
  rw [Nat.testBit_or, show TOP - 1 = 2 ^ 50 - 1 from rfl, Nat.testBit_two_pow_sub_one]
  by_cases hi : i < 50
  · simp [hi]
  · have := Nat.testBit_lt_two_pow (x := a) (i := i) (Nat.lt_of_lt_of_le h (Nat.pow_le_pow_right (by decide) (Nat.le_of_not_lt hi)))
    simp [this, hi]
theorem sub_and {a b : Nat} (h : sub a b) : a &&& b = a := by
  unfold sub at h
  apply Nat.eq_of_testBit_eq
  intro i
  have := congrArg (·.testBit i) h
  simp only [Nat.testBit_or, Nat.testBit_and] at *
  cases h1 : a.testBit i <;> cases h2 : b.testBit i <;> simp_all

/-- fewer items, fewer terminals -/
def le (T U : Nat → Option Nat) : Prop := ∀ k m, T k = some m → ∃ m', U k = some m' ∧ sub m m'
theorem le_refl (T : Nat → Option Nat) : le T T := fun k m h => ⟨m, h, sub_refl m⟩
theorem le_trans {T U V : Nat → Option Nat} (h1 : le T U) (h2 : le U V) : le T V := fun k m h => let ⟨m', a, b⟩ := h1 k m h; let ⟨m'', d, e⟩ := h2 k m' a; ⟨m'', d, sub_trans b e⟩
theorem le_antisymm {T U : Nat → Option Nat} (h1 : le T U) (h2 : le U T) : T = U := by
  funext k
  cases e : T k with
  | none =>
    cases e2 : U k with
    | none => rfl
    | some m => obtain ⟨m', a, _⟩ := h2 k m e2; rw [e] at a; cases a
  | some m =>
    obtain ⟨m', a, b⟩ := h1 k m e
    obtain ⟨m'', a', b'⟩ := h2 k m' a
    rw [e] at a'
    cases a'
    rw [a, sub_antisymm b b']

section
variable {R : Rls} {tc : Nat} {bs : List Bool} {F : List Nat}
theorem hand_or (it a b : Nat) : hand R bs F it (a ||| b) = hand R bs F it a ||| hand R bs F it b := by
  unfold hand
  generalize foN bs F ((right R (rul R it)).drop (dot R it + 1)) 0 = f
  dsimp only
  split
  · apply Nat.eq_of_testBit_eq
    intro i
    simp only [Nat.testBit_or]
    cases f.1.testBit i <;> cases a.testBit i <;> cases b.testBit i <;> rfl
  · rw [Nat.or_self]
theorem hand_mono {it a b : Nat} (h : sub a b) : sub (hand R bs F it a) (hand R bs F it b) := by
  unfold sub at h
  rw [← h, hand_or]
  exact sub_left _ _

def Closed (R : Rls) (tc : Nat) (bs : List Bool) (F : List Nat) (T : Nat → Option Nat) : Prop :=
  ∀ it m, T it = some m → ¬ quiet R tc it → ∀ b ∈ targets R it, ∃ mb, T b = some mb ∧ sub (hand R bs F it m) mb
def ClosedQ (R : Rls) (tc : Nat) (bs : List Bool) (F : List Nat) (T : Nat → Option Nat) (q : List Nat) : Prop :=
  ∀ it m, T it = some m → it ∉ q → ¬ quiet R tc it → ∀ b ∈ targets R it, ∃ mb, T b = some mb ∧ sub (hand R bs F it m) mb

/-- what beginning rules does -/
structure Bumped (M : Nat) (l : List Nat) (kv : NM) (q : List Nat) (kv1 : NM) (q1 : List Nat) : Prop where
  q : ∀ x ∈ q, x ∈ q1
  le : le (nv kv) (nv kv1)
  same : ∀ k, k ∉ q1 → nv kv1 k = nv kv k
  got : ∀ b ∈ l, ∃ mb, nv kv1 b = some mb ∧ sub M mb
  from_ : ∀ k m, nv kv1 k = some m → nv kv k = some m ∨ (k ∈ l ∧ m = (nv kv k).getD 0 ||| M)
  keys : ∃ ad, keys kv1 = keys kv ++ ad ∧ ∀ x ∈ ad, x ∈ l
theorem bump_bumped (M : Nat) (st : NM × List Nat) (b : Nat) : Bumped M [b] st.1 st.2 (bump M st b).1 (bump M st b).2 := by
  unfold bump
  cases e : nv st.1 b with
  | none =>
    dsimp only
    have hb : b ∉ Mine.keys st.1 := nv_none.mp e
    refine ⟨fun x hx => List.mem_append_left _ hx, fun k m hk => ⟨m, ?_, sub_refl m⟩, fun k hk => ?_, fun x hx => ?_, fun k m hk => ?_, [b], keys_new hb, fun x hx => hx⟩
    · rw [nv_put, if_neg (fun h => by subst h; rw [e] at hk; cases hk)]; exact hk
    · rw [nv_put, if_neg (fun h => hk (by rw [h]; simp))]
    · rw [List.mem_singleton.mp hx]; exact ⟨M, by rw [nv_put, if_pos rfl], sub_refl M⟩
    · rw [nv_put] at hk
      split at hk
      · rename_i h; subst h; cases hk; right; rw [e]; exact ⟨by simp, by simp⟩
      · exact .inl hk
  | some k0 =>
    dsimp only
    have hb : b ∈ Mine.keys st.1 := nv_some.mp ⟨_, e⟩
    split
    · refine ⟨fun x hx => List.mem_append_left _ hx, fun k m hk => ?_, fun k hk => ?_, fun x hx => ?_, fun k m hk => ?_, [], by rw [keys_old hb]; simp, fun x hx => nomatch hx⟩
      · rw [nv_put]
        split
        · rename_i h; subst h; rw [e] at hk; cases hk; exact ⟨_, rfl, sub_left _ _⟩
        · exact ⟨m, hk, sub_refl m⟩
      · rw [nv_put, if_neg (fun h => hk (by rw [h]; simp))]
      · rw [List.mem_singleton.mp hx]; exact ⟨_, by rw [nv_put, if_pos rfl], sub_right _ _⟩
      · rw [nv_put] at hk
        split at hk
        · rename_i h; subst h; cases hk; right; rw [e]; exact ⟨by simp, rfl⟩
        · exact .inl hk
    · rename_i h
      have h' : k0 ||| M = k0 := Classical.byContradiction fun q => h q
      refine ⟨fun x hx => hx, le_refl _, fun k hk => rfl, fun x hx => ?_, fun k m hk => .inl hk, [], by simp, fun x hx => nomatch hx⟩
      rw [List.mem_singleton.mp hx]
      exact ⟨k0, e, by unfold sub; rw [Nat.or_comm]; exact h'⟩
theorem Bumped.comp {M : Nat} {l1 l2 : List Nat} {kv kv1 kv2 : NM} {q q1 q2 : List Nat} (h1 : Bumped M l1 kv q kv1 q1) (h2 : Bumped M l2 kv1 q1 kv2 q2) : Bumped M (l1 ++ l2) kv q kv2 q2 := by
  refine ⟨fun x hx => h2.q x (h1.q x hx), le_trans h1.le h2.le, fun k hk => (h2.same k hk).trans (h1.same k fun h => hk (h2.q k h)), fun b hb => ?_, fun k m hk => ?_, ?_⟩
  · rcases List.mem_append.mp hb with hb | hb
    · obtain ⟨mb, a, d⟩ := h1.got b hb
      obtain ⟨m', a', d'⟩ := h2.le b mb a
      exact ⟨m', a', sub_trans d d'⟩
    · exact h2.got b hb
  · rcases h2.from_ k m hk with h | ⟨hl, hm⟩
    · rcases h1.from_ k m h with h | ⟨hl, hm⟩
      · exact .inl h
      · exact .inr ⟨List.mem_append_left _ hl, hm⟩
    · right
      refine ⟨List.mem_append_right _ hl, ?_⟩
      cases e : nv kv1 k with
      | none =>
        cases e0 : nv kv k with
        | none => rw [e] at hm; exact hm
        | some m0 => obtain ⟨m', a, _⟩ := h1.le k m0 e0; rw [e] at a; cases a
      | some m1 =>
        rw [e] at hm
        rcases h1.from_ k m1 e with h | ⟨_, h⟩
        · rw [h]; exact hm
        · rw [hm, Option.getD_some, h, Nat.or_assoc, Nat.or_self]
  · obtain ⟨a1, e1, f1⟩ := h1.keys
    obtain ⟨a2, e2, f2⟩ := h2.keys
    refine ⟨a1 ++ a2, by rw [e2, e1, List.append_assoc], fun x hx => ?_⟩
    rcases List.mem_append.mp hx with hx | hx
    · exact List.mem_append_left _ (f1 x hx)
    · exact List.mem_append_right _ (f2 x hx)
theorem fold_bumped (M : Nat) : ∀ (l : List Nat) (st : NM × List Nat), Bumped M l st.1 st.2 (l.foldl (bump M) st).1 (l.foldl (bump M) st).2
  | [], st => ⟨fun _ h => h, le_refl _, fun _ _ => rfl, fun _ h => (nomatch h), fun _ _ h => .inl h, [], by simp, fun _ h => nomatch h⟩
  | b :: l, st => (bump_bumped M st b).comp (fold_bumped M l (bump M st b))

/-- what a run leads to -/
structure Lfp (R : Rls) (tc : Nat) (bs : List Bool) (F : List Nat) (kv kv' : NM) : Prop where
  up : le (nv kv) (nv kv')
  closed : Closed R tc bs F (nv kv')
  least : ∀ T, Closed R tc bs F T → le (nv kv) T → le (nv kv') T
  keys : ∃ ad, keys kv' = keys kv ++ ad ∧ ∀ x ∈ ad, ∃ it ∈ Mine.keys kv', ¬ quiet R tc it ∧ x ∈ targets R it
theorem step_closedQ {kv : NM} {q : List Nat} {it m : Nat} (h : ClosedQ R tc bs F (nv kv) (q ++ [it])) (hm : nv kv it = some m) : ClosedQ R tc bs F (nv (stepN R tc bs F kv q it).1) (stepN R tc bs F kv q it).2 := by
  unfold stepN
  split
  · rename_i hq
    intro it' m' h1 h2 h3
    by_cases e : it' = it
    · subst e; exact absurd hq h3
    · exact h it' m' h1 (by simp [h2, e]) h3
  · rename_i hq
    have B := fold_bumped (hand R bs F it ((nv kv it).getD 0)) (targets R it) (kv, q)
    intro it' m' h1 h2 h3 b hb
    have hsame := B.same it' h2
    dsimp only at hsame
    rw [hsame] at h1
    by_cases e : it' = it
    · subst e
      obtain ⟨mb, a, d⟩ := B.got b hb
      rw [h1, Option.getD_some] at d
      exact ⟨mb, a, d⟩
    · obtain ⟨mb, a, d⟩ := h it' m' h1 (by simp [e]; exact fun hx => h2 (B.q _ hx)) h3 b hb
      obtain ⟨mb', a', d'⟩ := B.le b mb a
      exact ⟨mb', a', sub_trans d d'⟩

theorem runs_lfp (hF : ∀ x ∈ F, x < TOP) {st : NM × List Nat} {kv' : NM} (h : Runs R tc bs F st kv') : Good R st.1 st.2 → ClosedQ R tc bs F (nv st.1) st.2 → Lfp R tc bs F st.1 kv' := by
  induction h with
  | done kv => exact fun _ hc => ⟨le_refl _, fun it m h1 h2 => hc it m h1 (by simp) h2, fun T _ h => h, [], by simp, fun x hx => nomatch hx⟩
  | @step kv q it kv' hr ih =>
    intro hg hc
    dsimp only at hg hc ⊢
    have hit : it ∈ Mine.keys kv := hg.queue it (by simp)
    obtain ⟨m, hm⟩ := nv_some.mpr hit
    obtain ⟨h1, h2, h3, ad, h4, h5⟩ := ih (step_good hF hg).1 (step_closedQ hc hm)
    have hup : le (nv kv) (nv (stepN R tc bs F kv q it).1) := by
      unfold stepN
      split
      · exact le_refl _
      · exact (fold_bumped _ (targets R it) (kv, q)).le
    refine ⟨le_trans hup h1, h2, fun T hT hle => h3 T hT ?_, ?_⟩
    · unfold stepN
      split
      · exact hle
      · rename_i hq
        have B := fold_bumped (hand R bs F it ((nv kv it).getD 0)) (targets R it) (kv, q)
        intro x mx hx
        rcases B.from_ x mx hx with h | ⟨hxt, rfl⟩
        · exact hle x mx h
        · obtain ⟨mT, a, b⟩ := hle it m hm
          obtain ⟨mb, a2, b2⟩ := hT it mT a hq x hxt
          refine ⟨mb, a2, sub_or ?_ ?_⟩
          · cases e : nv kv x with
            | none => exact sub_zero _
            | some m0 =>
              obtain ⟨m1, a3, b3⟩ := hle x m0 e
              rw [a2] at a3
              cases a3
              exact b3
          · rw [hm, Option.getD_some]
            exact sub_trans (hand_mono b) b2
    · by_cases hq : quiet R tc it
      · have e : stepN R tc bs F kv q it = (kv, q) := by unfold stepN; rw [if_pos hq]
        rw [e] at h4
        exact ⟨ad, h4, h5⟩
      · obtain ⟨ad1, e1, f1⟩ := (fold_bumped (hand R bs F it ((nv kv it).getD 0)) (targets R it) (kv, q)).keys
        have e : stepN R tc bs F kv q it = (targets R it).foldl (bump (hand R bs F it ((nv kv it).getD 0))) (kv, q) := by unfold stepN; rw [if_neg hq]
        rw [e, e1] at h4
        refine ⟨ad1 ++ ad, by rw [h4, List.append_assoc], fun x hx => ?_⟩
        rcases List.mem_append.mp hx with hx | hx
        · exact ⟨it, by rw [h4]; exact List.mem_append_left _ (List.mem_append_left _ hit), hq, f1 x hx⟩
        · exact h5 x hx
theorem closure_lfp (hF : ∀ x ∈ F, x < TOP) {kv kv' : NM} (hg : Good R kv (Mine.keys kv)) (h : Runs R tc bs F (kv, Mine.keys kv) kv') : Lfp R tc bs F kv kv' :=
  runs_lfp hF h hg fun it m h1 h2 => absurd (nv_some.mp ⟨m, h1⟩) h2

/-- a closure's closure is itself -/
theorem lfp_idem {kv kv1 kv2 : NM} (h1 : Lfp R tc bs F kv kv1) (h2 : Lfp R tc bs F kv1 kv2) : nv kv2 = nv kv1 := le_antisymm (h2.least _ h1.closed (le_refl _)) h2.up
/-- two maps together -/
def orO : Option Nat → Option Nat → Option Nat
  | none, y => y
  | x, none => x
  | some a, some b => some (a ||| b)
theorem closed_or {T U : Nat → Option Nat} (hT : Closed R tc bs F T) (hU : Closed R tc bs F U) : Closed R tc bs F (fun k => orO (T k) (U k)) := by
  intro it m h hq b hb
  have key : ∀ (V V' : Nat → Option Nat) mv, Closed R tc bs F V → V it = some mv → ∃ mb, V b = some mb ∧ sub (hand R bs F it mv) mb := fun V V' mv hV hv => hV it mv hv hq b hb
  cases e1 : T it with
  | none =>
    cases e2 : U it with
    | none => simp [e1, e2, orO] at h
    | some u =>
      simp [e1, e2, orO] at h
      subst h
      obtain ⟨mb, a, d⟩ := hU it u e2 hq b hb
      cases e3 : T b with
      | none => exact ⟨mb, by simp [e3, a, orO], d⟩
      | some t => exact ⟨t ||| mb, by simp [e3, a, orO], sub_trans d (sub_right _ _)⟩
  | some t =>
    obtain ⟨mb, a, d⟩ := hT it t e1 hq b hb
    cases e2 : U it with
    | none =>
      simp [e1, e2, orO] at h
      subst h
      cases e3 : U b with
      | none => exact ⟨mb, by simp [e3, a, orO], d⟩
      | some u => exact ⟨mb ||| u, by simp [e3, a, orO], sub_trans d (sub_left _ _)⟩
    | some u =>
      simp [e1, e2, orO] at h
      subst h
      obtain ⟨mb2, a2, d2⟩ := hU it u e2 hq b hb
      exact ⟨mb ||| mb2, by simp [a, a2, orO], by rw [hand_or]; exact sub_mono d d2⟩
theorem le_or {T U T' U' : Nat → Option Nat} (h1 : le T T') (h2 : le U U') : le (fun k => orO (T k) (U k)) (fun k => orO (T' k) (U' k)) := by
  intro k m h
  try dsimp only at h
  try dsimp only
  cases e1 : T k with
  | none =>
    cases e2 : U k with
    | none => rw [e1, e2] at h; cases h
    | some u =>
      rw [e1, e2] at h
      cases h
      obtain ⟨m', a, b⟩ := h2 k _ e2
      rw [a]
      cases e3 : T' k with
      | none => exact ⟨_, rfl, b⟩
      | some t => exact ⟨_, rfl, sub_trans b (sub_right _ _)⟩
  | some t =>
    obtain ⟨m', a, b⟩ := h1 k _ e1
    rw [a]
    cases e2 : U k with
    | none =>
      rw [e1, e2] at h
      cases h
      cases e3 : U' k with
      | none => exact ⟨_, rfl, b⟩
      | some u => exact ⟨_, rfl, sub_trans b (sub_left _ _)⟩
    | some u =>
      rw [e1, e2] at h
      cases h
      obtain ⟨m2, a2, b2⟩ := h2 k _ e2
      rw [a2]
      exact ⟨_, rfl, sub_mono b b2⟩
theorem or_le {T U V : Nat → Option Nat} (h1 : le T V) (h2 : le U V) : le (fun k => orO (T k) (U k)) V := by
  refine le_trans (le_or h1 h2) fun k m h => ?_
  try dsimp only at h
  cases e : V k with
  | none => rw [e] at h; cases h
  | some v => rw [e] at h; cases h; exact ⟨v, rfl, by rw [Nat.or_self]; exact sub_refl v⟩
theorem le_or_left (T U : Nat → Option Nat) : le T (fun k => orO (T k) (U k)) := fun k m h => by
  try dsimp only
  rw [h]
  cases U k with
  | none => exact ⟨m, rfl, sub_refl m⟩
  | some u => exact ⟨_, rfl, sub_left _ _⟩
theorem le_or_right (T U : Nat → Option Nat) : le U (fun k => orO (T k) (U k)) := fun k m h => by
  try dsimp only
  rw [h]
  cases T k with
  | none => exact ⟨m, rfl, sub_refl m⟩
  | some u => exact ⟨_, rfl, sub_right _ _⟩
/-- the closure of both is both closures -/
theorem lfp_or {kv1 kv2 kvb c1 c2 cb : NM} (hb : nv kvb = fun k => orO (nv kv1 k) (nv kv2 k)) (h1 : Lfp R tc bs F kv1 c1) (h2 : Lfp R tc bs F kv2 c2) (h3 : Lfp R tc bs F kvb cb) : nv cb = fun k => orO (nv c1 k) (nv c2 k) := by
  refine le_antisymm (h3.least _ (closed_or h1.closed h2.closed) (by rw [hb]; exact le_or h1.up h2.up)) (or_le (h1.least _ h3.closed ?_) (h2.least _ h3.closed ?_))
  · exact le_trans (by rw [hb]; exact le_or_left _ _) h3.up
  · exact le_trans (by rw [hb]; exact le_or_right _ _) h3.up
end
set_option maxRecDepth 100000
set_option maxHeartbeats 1000000
theorem nodup_len {l : List Nat} {n : Nat} (hn : l.Nodup) (h : ∀ x ∈ l, x < n) : l.length ≤ n := by
  induction n generalizing l with
  | zero => cases l with
    | nil => simp
    | cons x l => exact absurd (h x (List.mem_cons_self ..)) (Nat.not_lt_zero _)
  | succ n ih =>
    have h2 : (l.erase n).Nodup := hn.erase n
    have h3 : ∀ x ∈ l.erase n, x < n := fun x hx => by
      obtain ⟨a, b⟩ := (List.Nodup.mem_erase_iff hn).mp hx
      have := h x b
      omega
    have h4 := ih h2 h3
    have h5 : l.length ≤ (l.erase n).length + 1 := by
      rw [List.length_erase]
      split <;> omega
    omega
theorem Good.len {R : Rls} {kv : NM} {q : List Nat} (h : Good R kv q) : kv.length ≤ nit R := by
  have := nodup_len h.nodup h.items
  simpa [keys] using this
theorem ints_snoc {qv : List Value} {q : List Nat} {it : Nat} (h : IntsAre qv (nats (q ++ [it]))) : ∃ qv0 t, qv = qv0 ++ [.int (it : Int) t] ∧ IntsAre qv0 (nats q) := by
  induction q generalizing qv with
  | nil =>
    cases h with
    | cons a t r => cases r; exact ⟨[], t, rfl, .nil⟩
  | cons x q ih =>
    cases h with
    | cons a t r =>
      obtain ⟨qv0, u, rfl, h⟩ := ih r
      exact ⟨.int x t :: qv0, u, rfl, .cons _ _ h⟩
section
variable {c : Fix} {Z : List (Addr × Obj)} {W : List (Addr × (Obj → Prop))} {s : Shared} {A : Around} {E : Value → Shared → Prop} {Q : Value → Shared → Prop}
  {ga : Addr} {R : Rls} {n tc : Nat}
theorem closure_spec {kt na fa : Addr} {xs fv : List Value} {kv : NM} {bs : List Bool} {F : List Nat} (H : St c Z W s) (hA : Am A 6) (hg : GRAM Z ga R n tc) (hk : Zs Z kt (TUP xs)) (hp : PRS Z xs (zz kv))
    (hn : Zs Z na (LIST (bs.map Value.bool))) (hbs : bs.length = n) (hf : Zs Z fa (LIST fv)) (hF : IntsAre fv (nats F)) (hFl : F.length = n) (hFt : ∀ x ∈ F, x < TOP) (hgood : Good R kv (keys kv))
    (k : ∀ a kv' s', Runs R tc bs F (kv, keys kv) kv' → Good R kv' [] → St c Z ((a, DI c.w (zz kv')) :: W) s' → Q (.ref a) s') :
    wpAny (model PG c.w) A (call (.ref 54) [.ref ga, .ref kt, .ref na, .ref fa]) Q E s := by
  have hh : A.handled = none := hA.hh
  have hlen : xs.length = kv.length := by have := hp.1; simpa [zz] using this
  obtain ⟨dga, gna, gra, gba, goa, gwa, mg, gnv, grv, gbv, gov, gwv, gtt, g⟩ := id hg
  obtain ⟨g1, g2, g3, g4, g5, g6, g7, g8, g9, g10, g11, g12, g13, g14, g15, g16, g17, g18, g19, g20, g21, g22, g23, g24, g25, g26, g27, g28⟩ := g
  have w1 := g28.rules
  have w2 := g28.items
  have w3 := g28.syms
  have w4 := g28.terms
  have hkl := hgood.len
  refine' wpAny_call (enter (binds := [(Str.ofString "grammar", .ref ga), (Str.ofString "kernel", .ref kt), (Str.ofString "nullables", .ref na), (Str.ofString "firsts", .ref fa)]) H hA ?ho ?hcd ?hb ?hloc ?hcell ?h1 ?h2 ?h3 ?h4)
  walk_at "ent"
  intro L s₁ H₁
  rw [ms_lookup] at H₁
  simp only [List.reverse_cons, List.reverse_nil, List.nil_append, List.cons_append, ms] at H₁
  clear H
  repeat walk_at "w"
  rename St _ _ _ _ => H₂
  refine r_dict_tup H₂ hh (.inr hk) hp (by omega) fun ma s₂ H₃ => ?_
  rw [dictOfPairs_zz hgood.nodup] at H₃
  clear H₂
  repeat walk_at "w"
  rename St _ _ _ _ => H₂
  refine r_list_dict H₂ hh (H₂.notmod (by walk_at "mem")) (H₂.get (by walk_at "mem")) (by simp [zz]; omega) fun wa qv s₃ hi H₃ => ?_
  rw [keys_zz] at hi
  clear H₂
  repeat walk_at "w"
  rename St _ _ _ _ => H₂
  refine x_while (fun N Z' W' => Z' = Z ∧ ∃ m kv1 q qv, A11 (N = pot R kv1 + q.length) (W' = (wa, LIST qv) :: (ma, DI c.w (zz kv1)) :: (L, NS m) :: W) (IntsAre qv (nats q)) (m (Str.ofString "grammar") = some (.ref ga)) (m (Str.ofString "nullables") = some (.ref na)) (m (Str.ofString "firsts") = some (.ref fa)) (m (Str.ofString "masks") = some (.ref ma)) (m (Str.ofString "waiting") = some (.ref wa)) (Good R kv1 q) (pot R kv1 + q.length ≤ 4000) ((∀ kv', Runs R tc bs F (kv1, q) kv' → Runs R tc bs F (kv, keys kv) kv'))) _ H₂
    ⟨rfl, _, kv, keys kv, qv, rfl, rfl, hi, by walk_at "lk", by walk_at "lk", by walk_at "lk", by walk_at "lk", by walk_at "lk", hgood, by have := pot_le R kv; simp [keys]; omega, fun _ h => h⟩ ?_
  rintro N Z' W' s' QT ⟨rfl, m, kv1, q, qv, rfl, rfl, hq, m1, m2, m3, m4, m5, hgd, hql, hrun⟩ H'
  have hqv := nats_len hq
  clear H₂
  repeat walk_at "w"
  refine if_bool (fun hb => ?_) (fun hb => ?_)
  · have : qv = [] := by simpa using hb
    subst this
    have : q = [] := List.eq_nil_of_length_eq_zero (by simpa using hqv.symm)
    subst this
    repeat walk_at "w"
    exact k _ kv1 _ (hrun _ (.done _)) hgd (St.sub (by assumption) (List.Sublist.cons _ (List.Sublist.cons_cons _ (List.Sublist.cons _ (List.Sublist.refl _)))))
  · have hne : q ≠ [] := by
      rintro rfl
      have : qv = [] := List.eq_nil_of_length_eq_zero (by simpa using hqv)
      subst this; simp at hb
    obtain ⟨q0, it, rfl⟩ : ∃ q0 it, q = q0 ++ [it] := ⟨q.dropLast, q.getLast hne, (List.dropLast_concat_getLast hne).symm⟩
    obtain ⟨qv0, t, rfl, hq0⟩ := ints_snoc hq
    have hin : it < nit R := hgd.items it (hgd.queue it (by simp))
    clear hqv
    have hqv := nats_len hq0
    have hql' : q0.length ≤ 4000 := by simp at hql; omega
    have hsg := step_good (R := R) (tc := tc) (bs := bs) hFt hgd
    repeat walk_at "w"
    have skip : quiet R tc it → ∀ m' s'', St c Z' ((wa, LIST qv0) :: (ma, DI c.w (zz kv1)) :: (L, NS m') :: W) s'' → m' (Str.ofString "grammar") = some (.ref ga) → m' (Str.ofString "nullables") = some (.ref na) → m' (Str.ofString "firsts") = some (.ref fa) → m' (Str.ofString "masks") = some (.ref ma) → m' (Str.ofString "waiting") = some (.ref wa) →
        QT .next s'' := by
      intro hquiet m' s'' H'' a1 a2 a3 a4 a5
      simp only [List.length_append, List.length_singleton] at hql
      exact ⟨_, _, H'', pot R kv1 + q0.length, by (simp only [List.length_append, List.length_singleton]; omega), rfl, m', kv1, q0, qv0, rfl, rfl, hq0, a1, a2, a3, a4, a5, hgd.pop, by omega, fun kv' hr => hrun _ (.step (by unfold stepN; rw [if_pos hquiet]; exact hr))⟩
    refine if_dec (fun hneg => ?_) (fun hpos => ?_)
    · repeat walk_at "w"
      exact skip (by unfold quiet; omega) _ _ (by assumption) (by walk_at "lk") (by walk_at "lk") (by walk_at "lk") (by walk_at "lk") (by walk_at "lk")
    · repeat walk_at "w"
      refine if_dec (fun hterm => ?_) (fun hterm => ?_)
      · repeat walk_at "w"
        exact skip hterm _ _ (by assumption) (by walk_at "lk") (by walk_at "lk") (by walk_at "lk") (by walk_at "lk") (by walk_at "lk")
      · obtain ⟨i1, i2, i3, i4⟩ := item_at hin
        have hdot : dot R it < (right R (rul R it)).length := by
          apply Classical.byContradiction
          intro hn
          have e7 : aft R it = -1 := by unfold aft; rw [List.getD_eq_getElem?_getD, List.getElem?_eq_none (by omega)]; rfl
          omega
        have e4 : R[rul R it].2 = right R (rul R it) := by unfold right; simp [i2]
        have haft : aft R it = (right R (rul R it))[dot R it] := by unfold aft; simp [hdot]
        have hsym : 0 ≤ aft R it ∧ aft R it < n := by
          have := g28.rights R[rul R it] (List.getElem_mem i2) (aft R it) (by rw [e4, haft]; exact List.getElem_mem _)
          exact this
        obtain ⟨sy, hsy⟩ := Int.eq_ofNat_of_zero_le hsym.1
        have hsyn : sy < n := by omega
        obtain ⟨rp, rdx, rta, rm, rt3, rt4, rxs, e3, r1, r2, r3, r4, r5, r6, r7⟩ := g20 (rul R it) i2
        rw [e4] at r7
        have hrx : rxs.length = (right R (rul R it)).length := r7.length
        have hb2 := offN_lt (R := R) (j := rul R it) i2 (Nat.le_refl _)
        have hstep0 : stepN R tc bs F kv1 q0 it = ((byl R sy).map (offN R)).foldl (bump (hand R bs F it ((nv kv1 it).getD 0))) (kv1, q0) := by
          unfold stepN; rw [if_neg (by unfold quiet; exact hterm)]; unfold targets; rw [hsy]
        simp only [hsy] at *
        repeat walk_at "w"
        rename St _ _ _ _ => H₅
        refine t_tup_from (n := dot R it + 1) (items := rxs) H₅ (H₅.zs r6) (H₅.get (.head _)) (by omega) (by omega) (by omega) fun sa s₅ H₆ => ?_
        clear H₅
        repeat walk_at "w"
        rename St _ _ _ _ => H₅
        refine firstof_spec (bs := bs) (F := nats F) (r := (right R (rul R it)).drop (dot R it + 1)) H₅ (by walk_at "am") At.head (r7.drop _) (.inr hn) (.inr hf) hF (fun x hx => ?_) (by omega) (by simp [nats]; omega) fun fa' ft s₆ H₇ => ?_
        · have := g28.rights R[rul R it] (List.getElem_mem i2) x (by rw [e4]; exact List.mem_of_mem_drop hx)
          simp [nats]
          omega
        clear H₅
        rw [fo_nat0 bs F] at H₇
        dsimp only at H₇
        have hm : ∃ mm, nv kv1 it = some mm := nv_some.mpr (hgd.queue it (by simp))
        obtain ⟨mm, hm⟩ := hm
        have hiv : iv (zz kv1) it = some (mm : Int) := by rw [iv_zz, hm]; rfl
        have hhand : hand R bs F it mm = if (foN bs F ((right R (rul R it)).drop (dot R it + 1)) 0).2 = true then (foN bs F ((right R (rul R it)).drop (dot R it + 1)) 0).1 ||| mm else (foN bs F ((right R (rul R it)).drop (dot R it + 1)) 0).1 := rfl
        generalize foN bs F ((right R (rul R it)).drop (dot R it + 1)) 0 = ff at H₇ hhand
        repeat walk_at "w"
        rename St _ _ _ _ => H₅
        refine r_unpack2 H₅ hA.hh At.head fun s₇ H₈ => ?_
        clear H₅
        iterate 4 walk_at "w"
        refine x_if_cut (fun s' => ∃ m' t u, St c Z' ((wa, LIST qv0) :: (ma, DI c.w (zz kv1)) :: (L, NS m') :: W) s' ∧ m' (Str.ofString "grammar") = some (.ref ga) ∧ m' (Str.ofString "nullables") = some (.ref na) ∧ m' (Str.ofString "firsts") = some (.ref fa) ∧ m' (Str.ofString "masks") = some (.ref ma) ∧ m' (Str.ofString "waiting") = some (.ref wa) ∧
          m' (Str.ofString "symbol") = some (.int (sy : Int) u) ∧ m' (Str.ofString "mask") = some (.int ((hand R bs F it mm : Nat) : Int) t)) ?_ ?_
        · repeat walk_at "w"
          refine if_bool (fun ho => ?_) (fun ho => ?_)
          · have e : ((hand R bs F it mm : Nat) : Int) = Builtin.bitOr (ff.1 : Int) (mm : Int) := by rw [hhand, if_pos ho, bitOr_nat]
            rw [e]
            repeat walk_at "w"
            exact ⟨rfl, _, _, _, St.sub (by assumption) (.cons _ (.cons _ (.cons _ (.refl _)))), by walk_at "lk", by walk_at "lk", by walk_at "lk", by walk_at "lk", by walk_at "lk", by walk_at "lk", by walk_at "lk"⟩
          · have e : ((hand R bs F it mm : Nat) : Int) = (ff.1 : Int) := by rw [hhand, if_neg (by rw [ho]; simp)]
            rw [e]
            repeat walk_at "w"
            exact ⟨rfl, _, _, _, St.sub (by assumption) (.cons _ (.cons _ (.cons _ (.refl _)))), by walk_at "lk", by walk_at "lk", by walk_at "lk", by walk_at "lk", by walk_at "lk", by walk_at "lk", by walk_at "lk"⟩
        · rintro s₈ ⟨m', t8, u8, H8, b1, b2, b3, b4, b5, b6, b7⟩
          have hmt : hand R bs F it mm < TOP := hand_top hFt (hgd.lt _ _ hm)
          rw [hm] at hstep0
          simp only [Option.getD_some] at hstep0
          generalize hand R bs F it mm = M at *
          repeat walk_at "w"
          rename St _ _ _ _ => H₅
          rename IntsAre _ (nats (byl _ _)) => hbl
          rename_i bla blx _
          have hbx := nats_len hbl
          have hbegin : ∀ i, ∀ b ∈ ((byl R sy).take i).map (offN R), b ∈ begins R := fun i b hb => by
            obtain ⟨j, hj, rfl⟩ := List.mem_map.mp hb
            exact List.mem_map.mpr ⟨j, by simpa using (byl_lt (List.mem_of_mem_take hj)).1, rfl⟩
          have hfold : ∀ i, Good R ((((byl R sy).take i).map (offN R)).foldl (bump M) (kv1, q0)).1 ((((byl R sy).take i).map (offN R)).foldl (bump M) (kv1, q0)).2 ∧ pot R ((((byl R sy).take i).map (offN R)).foldl (bump M) (kv1, q0)).1 + ((((byl R sy).take i).map (offN R)).foldl (bump M) (kv1, q0)).2.length ≤ pot R kv1 + q0.length :=
            fun i => fold_good hmt _ (kv1, q0) hgd.pop (hbegin i)
          refine fg_list (xs := blx) (fun i Z'' W'' => Z'' = Z' ∧ ∃ m2 kv2 q2 qv2 t2, A9 (W'' = (bla, LIST blx) :: (wa, LIST qv2) :: (ma, DI c.w (zz kv2)) :: (L, NS m2) :: W) (IntsAre qv2 (nats q2)) ((((byl R sy).take i).map (offN R)).foldl (bump M) (kv1, q0) = (kv2, q2)) (m2 (Str.ofString "grammar") = some (.ref ga)) (m2 (Str.ofString "nullables") = some (.ref na)) (m2 (Str.ofString "firsts") = some (.ref fa)) (m2 (Str.ofString "masks") = some (.ref ma)) (m2 (Str.ofString "waiting") = some (.ref wa)) (m2 (Str.ofString "mask") = some (.int (M : Int) t2))) H₅ hA.hh ⟨rfl, m', kv1, q0, qv0, t8, rfl, hq0, rfl, b1, b2, b3, b4, b5, b7⟩ ?_ (.inl fun _ _ => rfl) ?_ ?_
          · rintro i Z'' W'' hi ⟨rfl, m2, kv2, q2, qv2, t2, rfl, -⟩
            exact At.head
          · rintro fit i v Z'' W'' s'' QT hi hv ⟨rfl, m2, kv2, q2, qv2, t2, rfl, hqi, hfo, c1, c2, c3, c4, c5, c6⟩ H'
            have hi' : i < (byl R sy).length := by omega
            obtain ⟨t9, hv2⟩ := nats_get hbl (List.getElem?_eq_getElem hi')
            obtain rfl : v = .int ((byl R sy)[i] : Nat) t9 := Option.some.inj (hv.symm.trans hv2)
            have hj := (byl_lt (List.getElem_mem hi')).1
            have hnext : (((byl R sy).take (i + 1)).map (offN R)).foldl (bump M) (kv1, q0) = bump M (kv2, q2) (offN R (byl R sy)[i]) := by
              rw [List.take_add_one, List.getElem?_eq_getElem hi', List.map_append, List.foldl_append, hfo]; rfl
            have hg1 := hfold i
            have hg2 := hfold (i + 1)
            rw [hnext] at hg2
            rw [hfo] at hg1
            obtain ⟨hg1, hp1⟩ := hg1
            dsimp only at hg1 hp1
            have hqv2 := nats_len hqi
            have hkl2 := hg1.len
            have hzl : (zz kv2).length ≤ 64 := by simp [zz]; omega
            have hq2l : q2.length ≤ 4000 := by simp only [List.length_append, List.length_singleton] at hql; omega
            generalize (byl R sy)[i] = j at *
            clear H₅
            unfold bump at hnext
            cases hk2 : nv kv2 (offN R j) with
            | none =>
              have hiv2 : iv (zz kv2) (offN R j) = none := by rw [iv_zz, hk2]; rfl
              rw [hk2] at hnext
              dsimp only at hnext
              repeat walk_at "w"
              refine if_dec (fun _ => ?_) (fun h => absurd (by decide) h)
              repeat walk_at "w"
              rename St _ _ _ _ => H9
              rw [ist_zz] at H9
              exact ⟨_, _, H9, _, rfl, rfl, _, nst kv2 (offN R j) M, q2 ++ [offN R j], _, t2, rfl, by unfold nats; rw [List.map_append]; exact IntsAre.snoc hqi _ _, hnext, by walk_at "lk", by walk_at "lk", by walk_at "lk", by walk_at "lk", by walk_at "lk", by walk_at "lk"⟩
            | some k2 =>
              have hiv2 : iv (zz kv2) (offN R j) = some (k2 : Int) := by rw [iv_zz, hk2]; rfl
              rw [hk2] at hnext
              dsimp only at hnext
              repeat walk_at "w"
              refine if_dec (fun h => absurd h (by omega)) (fun _ => ?_)
              repeat walk_at "w"
              refine if_bool (fun hne => ?_) (fun heq => ?_)
              · rw [bitOr_nat] at hne
                rw [if_pos (fun e => by rw [e] at hne; simp at hne)] at hnext
                repeat walk_at "w"
                rename St _ _ _ _ => H9
                rw [bitOr_nat, ist_zz] at H9
                exact ⟨_, _, H9, _, rfl, rfl, _, nst kv2 (offN R j) (k2 ||| M), q2 ++ [offN R j], _, t2, rfl, by unfold nats; rw [List.map_append]; exact IntsAre.snoc hqi _ _, hnext, by walk_at "lk", by walk_at "lk", by walk_at "lk", by walk_at "lk", by walk_at "lk", by walk_at "lk"⟩
              · rw [bitOr_nat] at heq
                have h9 : ((k2 ||| M : Nat) : Int) = (k2 : Int) := by simpa using heq
                rw [if_neg (fun e => e (Int.ofNat.inj h9))] at hnext
                repeat walk_at "w"
                rename St _ _ _ _ => H9
                exact ⟨_, _, H9, _, rfl, rfl, _, kv2, q2, _, t2, rfl, hqi, hnext, by walk_at "lk", by walk_at "lk", by walk_at "lk", by walk_at "lk", by walk_at "lk", by walk_at "lk"⟩
          · rintro Z'' W'' s'' ⟨rfl, m2, kv2, q2, qv2, t2, rfl, hqi, hfo, c1, c2, c3, c4, c5, c6⟩ H'
            have ht : ((byl R sy).take blx.length) = byl R sy := List.take_of_length_le (by omega)
            rw [ht] at hfo
            have hg1 := hfold blx.length
            rw [ht, hfo] at hg1
            obtain ⟨hg1, hp1⟩ := hg1
            dsimp only at hg1 hp1
            clear H₅
            repeat walk_at "w"
            simp only [List.length_append, List.length_singleton] at hql hsg ⊢
            exact ⟨_, _, St.sub (by assumption) (.cons _ (.refl _)), _, by (simp only [List.length_append, List.length_singleton]; omega), rfl, m2, kv2, q2, qv2, rfl, rfl, hqi, c1, c2, c3, c4, c5, hg1, by omega, fun kv' hr => hrun _ (.step (by rw [hstep0, hfo]; exact hr))⟩
end
/-! the plain law, second part: what the law asks -/
section
variable {R : Rls} {tc : Nat} {bs : List Bool} {F : List Nat}
theorem nv_pair {kv : NM} (hn : (keys kv).Nodup) : ∀ {k m : Nat}, (k, m) ∈ kv → nv kv k = some m := by
  induction kv with
  | nil => intro k m h; cases h
  | cons p kv ih =>
    intro k m h
    rw [show keys (p :: kv) = p.1 :: keys kv from rfl, List.nodup_cons] at hn
    rcases List.mem_cons.mp h with h | h
    · subst h; simp [nv]
    · have h1 : k ∈ keys kv := List.mem_map.mpr ⟨_, h, rfl⟩
      have h2 : ¬ p.1 = k := fun e => hn.1 (e ▸ h1)
      have := ih hn.2 h
      unfold nv at this ⊢
      simpa [h2] using this
theorem nv_in {kv : NM} {k m : Nat} (h : nv kv k = some m) : (k, m) ∈ kv := by
  unfold nv at h
  obtain ⟨p, h1, h2⟩ := Option.map_eq_some_iff.mp h
  have h3 := List.find?_some h1
  have h4 := List.mem_of_find?_eq_some h1
  have h5 : p.1 = k := by simpa using h3
  subst h2
  subst h5
  exact h4
theorem nv_perm {kv kv' : NM} (h : kv'.Perm kv) (hn : (keys kv).Nodup) : nv kv' = nv kv := by
  have hn' : (keys kv').Nodup := (h.map _).nodup_iff.mpr hn
  funext k
  cases e : nv kv' k with
  | some m => exact (nv_pair hn (h.mem_iff.mp (nv_in e))).symm
  | none =>
    cases e2 : nv kv k with
    | none => rfl
    | some m => have := nv_pair hn' (h.mem_iff.mpr (nv_in e2)); rw [e] at this; cases this
theorem kern_good {kv : NM} (h : Kern R kv) : Good R kv (Mine.keys kv) := ⟨h.nodup, fun k m e => Nat.lt_trans (h.masks k m e) (by decide), h.items, fun _ h => h⟩
theorem good_all {kv : NM} {q : List Nat} (h : Good R kv q) : Good R kv (Mine.keys kv) := ⟨h.nodup, h.lt, h.items, fun _ h => h⟩
theorem good_perm {kv kv' : NM} {q : List Nat} (h : Good R kv q) (hp : kv'.Perm kv) : Good R kv' (Mine.keys kv') :=
  ⟨(hp.map _).nodup_iff.mpr h.nodup, fun k m e => h.lt k m (by rw [nv_perm hp h.nodup] at e; exact e), fun k hk => h.items k ((hp.map _).mem_iff.mp hk), fun _ h => h⟩
/-- the sorted pairs are pairs of naturals -/
theorem zz_perm {kv : NM} {l : List (Int × Int)} (h : l.Perm (zz kv)) : ∃ kv', kv'.Perm kv ∧ l = zz kv' := by
  refine ⟨l.map fun p => (p.1.toNat, p.2.toNat), ?_, ?_⟩
  · have := h.map fun p => (p.1.toNat, p.2.toNat)
    have e : (zz kv).map (fun p => (p.1.toNat, p.2.toNat)) = kv := by unfold zz; rw [List.map_map]; exact (List.map_congr_left fun p _ => by simp).trans (List.map_id _)
    rwa [e] at this
  · unfold zz
    rw [List.map_map]
    refine ((List.map_congr_left fun p hp => ?_).trans (List.map_id l)).symm
    obtain ⟨q, _, rfl⟩ := List.mem_map.mp (h.mem_iff.mp hp)
    simp
/-- two ways to sort the keys -/
theorem keys_sorted {kv S : NM} {ks : List Int} (h1 : ks.Perm ((zz kv).map (·.1))) (h2 : ks.Pairwise (· ≤ ·)) (h3 : S.Perm kv) (h4 : (zz S).Pairwise (fun a b => a.1 < b.1)) : ks = nats (keys S) := by
  refine lks_uniq (h1.trans ?_) h2 ?_
  · rw [keys_zz]; exact ((h3.map _).map _).symm
  · rw [← keys_zz, List.pairwise_map]; exact h4.imp fun h => Int.le_of_lt h
theorem orO_getD {x : Option Nat} {m : Nat} : orO x (some m) = some (x.getD 0 ||| m) := by cases x <;> simp [orO]
theorem orO_none {x : Option Nat} : orO x none = x := by cases x <;> rfl
theorem nv_join {kv1 : NM} : ∀ {kv2 : NM}, (keys kv2).Nodup → ∀ {acc : NM}, nv (kv2.foldl (fun acc p => nst acc p.1 ((nv acc p.1).getD 0 ||| p.2)) acc) = fun k => orO (nv acc k) (nv kv2 k)
  | [], _, acc => by funext k; show nv acc k = orO (nv acc k) none; rw [orO_none]
  | p :: kv2, hn, acc => by
    rw [show keys (p :: kv2) = p.1 :: keys kv2 from rfl, List.nodup_cons] at hn
    rw [List.foldl_cons, nv_join (kv1 := kv1) hn.2]
    funext k
    rw [nv_put]
    by_cases h : k = p.1
    · subst h
      have h2 := nv_none.mpr hn.1
      rw [if_pos rfl, h2, orO_none, show nv (p :: kv2) p.1 = some p.2 by simp [nv], orO_getD]
    · rw [if_neg h]
      have h2 : ¬ p.1 = k := fun e => h e.symm
      rw [show nv (p :: kv2) k = nv kv2 k by simp [nv, h2]]
theorem nv_joinN {kv1 kv2 : NM} (h : (keys kv2).Nodup) : nv (joinN kv1 kv2) = fun k => orO (nv kv1 k) (nv kv2 k) := nv_join (kv1 := kv1) h
theorem nodup_joinN {kv1 kv2 : NM} (h : (keys kv1).Nodup) : (keys (joinN kv1 kv2)).Nodup := by
  unfold joinN
  induction kv2 generalizing kv1 with
  | nil => exact h
  | cons p kv2 ih => exact ih (nodup_put h)
theorem mem_orO {kv1 kv2 kv : NM} (h : nv kv = fun k => orO (nv kv1 k) (nv kv2 k)) {k : Nat} : k ∈ keys kv ↔ k ∈ keys kv1 ∨ k ∈ keys kv2 := by
  rw [← nv_some, ← nv_some, ← nv_some, h]
  dsimp only
  cases nv kv1 k <;> cases nv kv2 k <;> simp [orO]
theorem good_join {kv1 kv2 : NM} (h1 : Kern R kv1) (h2 : Kern R kv2) : Good R (joinN kv1 kv2) (Mine.keys (joinN kv1 kv2)) := by
  have e := nv_joinN (kv1 := kv1) h2.nodup
  refine ⟨nodup_joinN h1.nodup, fun k m hm => ?_, fun k hk => ?_, fun _ h => h⟩
  · rw [e] at hm
    dsimp only at hm
    cases e1 : nv kv1 k with
    | none => rw [e1] at hm; exact Nat.lt_trans (h2.masks k m hm) (by decide)
    | some a =>
      cases e2 : nv kv2 k with
      | none => rw [e1, e2] at hm; cases hm; exact Nat.lt_trans (h1.masks k m e1) (by decide)
      | some b => rw [e1, e2] at hm; cases hm; exact or_top (Nat.lt_trans (h1.masks k a e1) (by decide)) (Nat.lt_trans (h2.masks k b e2) (by decide))
  · rcases (mem_orO e).mp hk with h | h
    · exact h1.items k h
    · exact h2.items k h
theorem joinN_ne {kv1 kv2 : NM} (h1 : kv1 ≠ []) (hn : (keys kv2).Nodup) : joinN kv1 kv2 ≠ [] := by
  intro e
  cases kv1 with
  | nil => exact h1 rfl
  | cons p kv1 =>
    have := (mem_orO (nv_joinN (kv1 := p :: kv1) hn) (k := p.1)).mpr (.inl (List.mem_cons_self ..))
    rw [e] at this
    cases this
theorem iv_all {a b : NM} (h : nv a = nv b) (k : Int) : iv (zz a) k = iv (zz b) k := by
  by_cases hk : 0 ≤ k
  · obtain ⟨n, rfl⟩ := Int.eq_ofNat_of_zero_le hk
    rw [iv_zz, iv_zz, h]
  · have key : ∀ kv : NM, iv (zz kv) k = none := by
      intro kv
      unfold iv zz
      rw [Option.map_eq_none_iff, List.find?_eq_none]
      intro p hp
      obtain ⟨q, _, rfl⟩ := List.mem_map.mp hp
      simp
      omega
    rw [key, key]
/-- closed kernels, in the words of _law_is_closed -/
theorem lfp_added {kv c : NM} (h : Lfp R tc bs F kv c) : ∀ k ∈ keys c, k ∉ keys kv → dot R k = 0 ∧ left R (rul R k) ∈ (keys c).map (aft R) := by
  intro k hk hn
  obtain ⟨ad, e, f⟩ := h.keys
  have h2 : k ∈ ad := by
    rw [e] at hk
    rcases List.mem_append.mp hk with h | h
    · exact absurd h hn
    · exact h
  obtain ⟨it, hi, hq, ht⟩ := f k h2
  obtain ⟨j, hj, rfl⟩ := List.mem_map.mp ht
  obtain ⟨b1, b2⟩ := byl_lt hj
  have d := dot_off (R := R) (j := j) (d := 0) b1 (Nat.zero_le _)
  have r := rul_off (R := R) (j := j) (d := 0) b1 (Nat.zero_le _)
  rw [Nat.add_zero] at d r
  exact ⟨d, by rw [r, b2]; exact List.mem_map.mpr ⟨it, hi, rfl⟩⟩
theorem lfp_take {kv c : NM} (h : Lfp R tc bs F kv c) : (keys c).take (keys kv).length = keys kv := by
  obtain ⟨ad, e, f⟩ := h.keys
  rw [e]; simp
theorem lfp_ne {kv c : NM} (h : Lfp R tc bs F kv c) (hn : kv ≠ []) : c ≠ [] := by
  intro e
  obtain ⟨ad, e2, f⟩ := h.keys
  subst e
  cases kv with
  | nil => exact hn rfl
  | cons p kv => simp [keys] at e2
theorem lfp_again {kv c S d : NM} (h1 : Lfp R tc bs F kv c) (hn : (keys c).Nodup) (hp : S.Perm c) (h2 : Lfp R tc bs F S d) : nv d = nv c := by
  have e := nv_perm hp hn
  refine le_antisymm (h2.least _ h1.closed (by rw [e]; exact le_refl _)) ?_
  have := h2.up
  rw [e] at this
  exact this
theorem perm_ne {a b : List α} (h : a.Perm b) (hb : b ≠ []) : a ≠ [] := fun e => hb (by subst e; exact h.nil_eq.symm)
/-- more terminals in a kernel -/
def moreN (kv : NM) : NM := kv.map fun p => (p.1, p.2 ||| 4)
theorem keys_more (kv : NM) : keys (moreN kv) = keys kv := by unfold keys moreN; rw [List.map_map]; rfl
theorem nv_more (kv : NM) (k : Nat) : nv (moreN kv) k = (nv kv k).map (· ||| 4) := by
  unfold nv moreN
  induction kv with
  | nil => rfl
  | cons p kv ih =>
    by_cases h : p.1 = k
    · simp [h]
    · simpa [h] using ih
theorem good_more {kv : NM} (h : Kern R kv) : Good R (moreN kv) (Mine.keys (moreN kv)) := by
  refine ⟨by rw [keys_more]; exact h.nodup, fun k m e => ?_, fun k hk => h.items k (by rw [keys_more] at hk; exact hk), fun _ h => h⟩
  rw [nv_more] at e
  obtain ⟨a, h1, h2⟩ := Option.map_eq_some_iff.mp e
  rw [← h2]
  exact or_top (Nat.lt_trans (h.masks k a h1) (by decide)) (by decide)
theorem grown_laws (hF : ∀ x ∈ F, x < TOP) {kv S1 c SM g : NM} (hk : Kern R kv) (p1 : S1.Perm kv) (pM : SM.Perm (moreN kv)) (h1 : Lfp R tc bs F S1 c) (hM : Lfp R tc bs F SM g) (gc : Good R c []) (gg : Good R g []) :
    (keys g).Perm (keys c) ∧ ∀ k a, nv c k = some a → ∃ b, nv g k = some b ∧ a &&& b = a := by
  have e1 := nv_perm p1 hk.nodup
  have eM := nv_perm pM (by rw [keys_more]; exact hk.nodup)
  have up : le (nv c) (nv g) := by
    refine h1.least _ hM.closed (le_trans ?_ hM.up)
    rw [e1, eM]
    intro k m e
    exact ⟨m ||| 4, by rw [nv_more, e]; rfl, sub_left _ _⟩
  have down : le (nv g) (fun k => (nv c k).map fun _ => TOP - 1) := by
    refine hM.least _ ?_ ?_
    · intro it m e hq b hb
      obtain ⟨a, ha, h2⟩ := Option.map_eq_some_iff.mp e
      obtain ⟨mb, a2, d2⟩ := h1.closed it a ha hq b hb
      refine ⟨TOP - 1, by show Option.map _ (nv c b) = _; rw [a2]; rfl, ?_⟩
      rw [← h2]
      exact sub_full (hand_top hF (by decide))
    · intro k m e
      have hm : m < TOP := by
        rw [eM] at e
        exact (good_more hk).lt k m e
      rw [eM, nv_more] at e
      obtain ⟨a, ha, h2⟩ := Option.map_eq_some_iff.mp e
      rw [← e1] at ha
      obtain ⟨m', a2, d2⟩ := h1.up k a ha
      exact ⟨TOP - 1, by show Option.map _ (nv c k) = _; rw [a2]; rfl, sub_full hm⟩
  refine ⟨?_, fun k a e => ?_⟩
  · refine (List.perm_ext_iff_of_nodup gg.nodup gc.nodup).mpr fun k => ?_
    rw [← nv_some, ← nv_some]
    constructor
    · rintro ⟨m, e⟩
      obtain ⟨m', a, _⟩ := down k m e
      obtain ⟨x, hx, _⟩ := Option.map_eq_some_iff.mp a
      exact ⟨x, hx⟩
    · rintro ⟨m, e⟩
      obtain ⟨m', a, _⟩ := up k m e
      exact ⟨m', a⟩
  · obtain ⟨b, h2, h3⟩ := up k a e
    exact ⟨b, h2, sub_and h3⟩
/-- the closure of both, in the words of the law -/
theorem joined_laws {kv1 kv2 S1 S2 SJ c1 c2 cb : NM} (k1 : Kern R kv1) (k2 : Kern R kv2) (p1 : S1.Perm kv1) (p2 : S2.Perm kv2) (pJ : SJ.Perm (joinN kv1 kv2)) (h1 : Lfp R tc bs F S1 c1) (h2 : Lfp R tc bs F S2 c2) (hJ : Lfp R tc bs F SJ cb) (n2 : (keys c2).Nodup) : nv cb = nv (joinN c1 c2) := by
  rw [nv_joinN n2]
  refine lfp_or ?_ h1 h2 hJ
  rw [nv_perm pJ (nodup_joinN k1.nodup), nv_joinN k2.nodup, nv_perm p1 k1.nodup, nv_perm p2 k2.nodup]
end
set_option maxRecDepth 100000
set_option maxHeartbeats 1000000
section
variable {c : Fix} {Z : List (Addr × Obj)} {W : List (Addr × (Obj → Prop))} {s : Shared} {A : Around} {E : Value → Shared → Prop} {Q : Value → Shared → Prop}
  {ga : Addr} {R : Rls} {n tc : Nat}
theorem spread_spec {ka : Addr} (H : St c Z W s) (hA : Am A 4) (hg : GRAM Z ga R n tc) (hk : At Z W ka (LIST (List.replicate n (.bool false))))
    (k : ∀ a (bs : List Bool) s', bs.length = n → St c Z ((a, LIST (bs.map Value.bool)) :: W) s' → Q (.ref a) s') : wpAny (model PG c.w) A (call (.ref 26) [.ref ga, .ref ka]) Q E s := by
  have hh : A.handled = none := hA.hh
  obtain ⟨dga, gna, gra, gba, goa, gwa, mg, gnv, grv, gbv, gov, gwv, gtt, g⟩ := id hg
  obtain ⟨g1, g2, g3, g4, g5, g6, g7, g8, g9, g10, g11, g12, g13, g14, g15, g16, g17, g18, g19, g20, g21, g22, g23, g24, g25, g26, g27, g28⟩ := g
  have w1 := g28.rules
  have w2 := g28.items
  have w3 := g28.syms
  have w4 := g28.terms
  refine' wpAny_call (enter (binds := [(Str.ofString "grammar", .ref ga), (Str.ofString "known", .ref ka)]) H hA ?ho ?hcd ?hb ?hloc ?hcell ?h1 ?h2 ?h3 ?h4)
  walk_at "ent"
  intro L s₁ H₁
  rw [ms_lookup] at H₁
  simp only [List.reverse_cons, List.reverse_nil, List.nil_append, List.cons_append, ms] at H₁
  clear H
  have hl : (List.replicate n (Value.bool false)).length ≤ 40 := by simp; exact w3
  repeat walk_at "w"
  rename_i fo _ _ la _ _ H₂
  repeat walk_at "w"
  rename St _ _ _ _ => H₂
  refine cg_list (xs := List.replicate n (.bool false)) (fun i ys Z' W' => Z' = Z ∧ ∃ us, A4 (W' = fam us ++ ([(la, LIST []), (fo, LIST (List.replicate n (.bool false))), (L, NS (up (up (up (up (fun _ => none) (Str.ofString "grammar") (.ref ga)) (Str.ofString "known") (.ref ka)) (Str.ofString "found") (.ref fo)) (Str.ofString "lacking") (.ref la)))] ++ W)) (ys = us.map (fun p => Value.ref p.1)) (us.length = i) (∀ p ∈ us, p.2 = []))
    H₂ hh ⟨rfl, [], rfl, rfl, rfl, fun _ h => nomatch h⟩ (by omega) ?_ (.inl fun _ _ => rfl) ?_ ?_ (by decide) rfl
  · rintro i ys Z' W' hi ⟨rfl, us, rfl, -⟩
    exact .inl (List.mem_append_right _ (by walk_at "mem"))
  · rintro it C D i v ys m Z' W' s' QT hi hy hv ⟨rfl, us, rfl, rfl, hul, hue⟩ H'
    clear H₂
    iterate 2 walk_at "w"
    refine compElt_nil ?_
    repeat walk_at "w"
    rename_i a _ H3
    exact ⟨_, _, _, H3.to4, rfl, us ++ [(a, [])], by rw [fam_append]; rfl, by simp, by simp [hul], fun p hp => by
      rcases List.mem_append.mp hp with hp | hp
      · exact hue p hp
      · rw [List.mem_singleton.mp hp]⟩
  · rintro C ua ys m Z' W' s' GG ⟨rfl, us, rfl, rfl, hul, hue⟩ H'
    clear H₂
    refine ⟨_, _, _, _, _, H', .tail (.right (.tail (.tail .head))), fun s₃ H₃ => ?_⟩
    have hul' : us.length = n := by simpa using hul
    have hU : USR R n 0 us := ⟨hul', fun p hp => ⟨[], by rw [hue p hp]; exact .nil, (fun _ h => nomatch h), Nat.le_refl _⟩⟩
    clear hue hul
    have H₄ := St.back (X := [(la, LIST []), (fo, LIST (List.replicate n (.bool false))), (L, NS _)]) H₃
    clear H₃ H'
    simp only [List.cons_append, List.nil_append] at H₄
    repeat walk_at "w"
    rename_i qa _ _ _ H5
    refine fg_list (xs := grv) (fun i Z'' W'' => Z'' = Z' ∧ ∃ m lav us, A5 (W'' = (qa, LIST []) :: (ua, LIST (us.map fun p => Value.ref p.1)) :: (la, LIST lav) :: (fo, LIST (List.replicate n (.bool false))) :: (L, NS m) :: (fam us ++ W)) (SpLk m ga fo la ua qa) (lav.length = i) (INTS lav) (USR R n (offN R i) us)) H5 hh
      ⟨rfl, _, [], us, rfl, ⟨by walk_at "lk", by walk_at "lk", by walk_at "lk", by walk_at "lk", by walk_at "lk"⟩, rfl, (fun _ h => nomatch h), hU⟩ ?_ (.inl fun _ _ => rfl) ?_ ?_
    · rintro i Z'' W'' hi ⟨rfl, -⟩
      exact .inr g18
    · clear H5 hU hul'
      rintro it i v Z'' W'' s'' QT hi hv ⟨rfl, m, lav, us, rfl, ⟨k1, k2, k3, k4, k5⟩, hlav, hint, hU⟩ H'
      have hi' : i < R.length := by omega
      obtain ⟨rp, rdx, rta, rm, rt3, rt4, rxs, e3, r1, r2, r3, r4, r5, r6, r7⟩ := g20 i hi'
      obtain rfl : v = .ref rp := Option.some.inj (hv.symm.trans e3)
      have hon := offN_succ hi'
      have hol := offN_le (R := R) (i := i + 1) hi'
      have hrx : rxs.length = R[i].2.length := r7.length
      repeat walk_at "w"
      rename St _ _ _ _ => H5
      refine fg_tup (xs := rxs) (fun j Z₃ W₃ => Z₃ = Z'' ∧ ∃ m us mi t, A5 (W₃ = (it, LITER gra (i + 1)) :: (qa, LIST []) :: (ua, LIST (us.map fun p => Value.ref p.1)) :: (la, LIST lav) :: (fo, LIST (List.replicate n (.bool false))) :: (L, NS m) :: (fam us ++ W)) (SpLk m ga fo la ua qa) (m (Str.ofString "rule") = some (.ref rp)) (m (Str.ofString "missing") = some (.int mi t)) (USR R n (offN R i + j) us)) H5 hh
        ⟨rfl, _, us, _, _, rfl, ⟨by walk_at "lk", by walk_at "lk", by walk_at "lk", by walk_at "lk", by walk_at "lk"⟩, by walk_at "lk", by walk_at "lk", hU⟩ ?_ (.inl fun _ _ => rfl) ?_ ?_
      · rintro j Z₃ W₃ hj ⟨rfl, -⟩
        exact .inr r6
      · clear H5 hU
        rintro it2 j v Z₃ W₃ s₃ QT hj hv ⟨rfl, m, us, mi, t, rfl, ⟨k1, k2, k3, k4, k5⟩, k6, k7, hU⟩ H'
        have hj' : j < R[i].2.length := by omega
        obtain ⟨u, e⟩ := ints_at r7 (List.getElem?_eq_getElem hj')
        obtain rfl : v = .int R[i].2[j] u := Option.some.inj (hv.symm.trans e)
        have hb := g28.rights R[i] (List.getElem_mem hi') _ (List.getElem_mem hj')
        generalize R[i].2[j] = y at hb
        obtain ⟨x, rfl⟩ := Int.eq_ofNat_of_zero_le hb.1
        have hx : x < us.length := by rw [hU.1]; omega
        obtain ⟨pa, pl⟩ : ∃ pa pl, us[x]? = some (pa, pl) := ⟨us[x].1, us[x].2, by rw [List.getElem?_eq_getElem hx]⟩
        obtain ⟨px, pe⟩ := pl
        have f1 : (List.replicate n (Value.bool false))[x]? = some (.bool false) := by rw [List.getElem?_replicate, if_pos (by omega)]
        have f2 : (us.map fun p => Value.ref p.1)[x]? = some (.ref pa) := by rw [List.getElem?_map, pe]; rfl
        obtain ⟨pl2, q1, q2, q3⟩ := hU.2 _ (List.mem_of_getElem? pe)
        have hpl : px.length ≤ 64 := by have := nats_len q1; dsimp only at this q3; omega
        repeat walk_at "w"
        rename St _ _ _ _ => H9
        rw [← fst_set (ys := px ++ [.int (i : Int) rt3]) pe] at H9
        exact ⟨_, _, H9, _, rfl, rfl, _, _, _, _, rfl, ⟨by walk_at "lk", by walk_at "lk", by walk_at "lk", by walk_at "lk", by walk_at "lk"⟩, by walk_at "lk", by walk_at "lk", hU.push pe hi'⟩
      · rintro Z₃ W₃ s₃ ⟨rfl, m, us, mi, t, rfl, ⟨k1, k2, k3, k4, k5⟩, k6, k7, hU⟩ H'
        clear H5
        repeat walk_at "w"
        rename St _ _ _ _ => H9
        exact ⟨_, _, H9, _, rfl, rfl, m, lav ++ [.int mi t], us, rfl, ⟨k1, k2, k3, k4, k5⟩, by simp [hlav], hint.snoc _ _, hU.more (by omega)⟩
    · rintro Z'' W'' s'' ⟨rfl, m, lav, us, rfl, ⟨k1, k2, k3, k4, k5⟩, hlav, hint, hU⟩ H'
      clear H5
      repeat walk_at "w"
      rename St _ _ _ _ => H5
      refine fg_list (xs := grv) (fun i Z₃ W₃ => Z₃ = Z'' ∧ ∃ m bs q qv, A6 (W₃ = (qa, LIST qv) :: (ua, LIST (us.map fun p => Value.ref p.1)) :: (la, LIST lav) :: (fo, LIST (bs.map Value.bool)) :: (L, NS m) :: (fam us ++ W)) (SpLk m ga fo la ua qa) (IntsAre qv (nats q)) ((∀ x ∈ q, x < n)) (bs.length = n) (q.length + cf bs ≤ n)) H5 hh
        ⟨rfl, m, List.replicate n false, [], [], by simp, ⟨k1, k2, k3, k4, k5⟩, .nil, (fun _ h => nomatch h), by simp, by unfold cf; have := List.countP_le_length (p := fun b : Bool => !b) (l := List.replicate n false); simpa using this⟩ ?_ (.inl fun _ _ => rfl) ?_ ?_
      · rintro i Z₃ W₃ hi ⟨rfl, -⟩
        exact .inr g18
      · clear H5
        rintro it i v Z₃ W₃ s₃ QT hi hv ⟨rfl, m, bs, q, qv, rfl, ⟨k1, k2, k3, k4, k5⟩, hq, hqn, hbs, hcf⟩ H'
        have hi' : i < R.length := by omega
        obtain ⟨rp, rdx, rta, rm, rt3, rt4, rxs, e3, r1, r2, r3, r4, r5, r6, r7⟩ := g20 i hi'
        obtain rfl : v = .ref rp := Option.some.inj (hv.symm.trans e3)
        have hb := g28.lefts R[i] (List.getElem_mem hi')
        generalize R[i].1 = y at hb r4
        obtain ⟨x, rfl⟩ := Int.eq_ofNat_of_zero_le hb.1
        obtain ⟨lx, lt, el⟩ := hint.at (i := i) (by omega)
        have hx : x < bs.length := by omega
        have f1 : (bs.map Value.bool)[x]? = some (.bool bs[x]) := by rw [List.getElem?_map, List.getElem?_eq_getElem hx]; rfl
        have hqv := nats_len hq
        repeat walk_at "w"
        have hmap : (bs.map Value.bool).length = n := by simp [hbs]
        have skip : ∀ m' s', St c Z₃ ((it, LITER gra (i + 1)) :: (qa, LIST qv) :: (ua, LIST (us.map fun p => Value.ref p.1)) :: (la, LIST lav) :: (fo, LIST (bs.map Value.bool)) :: (L, NS m') :: (fam us ++ W)) s' → SpLk m' ga fo la ua qa →
            QT .next s' :=
          fun m' s' H' hk => ⟨_, _, H', _, rfl, rfl, m', bs, q, qv, rfl, hk, hq, hqn, hbs, hcf⟩
        refine if_bool (fun _ => ?_) (fun _ => ?_)
        · repeat walk_at "w"
          cases hbx : bs[x] with
          | true =>
            rw [hbx] at f1
            repeat walk_at "w"
            exact skip _ _ (by assumption) ⟨by walk_at "lk", by walk_at "lk", by walk_at "lk", by walk_at "lk", by walk_at "lk"⟩
          | false =>
            rw [hbx] at f1
            have hcs := cf_set (bs := bs) (i := x) (by rw [List.getElem?_eq_getElem hx, hbx])
            repeat walk_at "w"
            rename St _ _ _ _ => H9
            rw [show (bs.map Value.bool).set x (.bool true) = (bs.set x true).map Value.bool by rw [List.map_set]] at H9
            exact ⟨_, _, H9, _, rfl, rfl, _, bs.set x true, q ++ [x], _, rfl, ⟨by walk_at "lk", by walk_at "lk", by walk_at "lk", by walk_at "lk", by walk_at "lk"⟩, by unfold nats; rw [List.map_append]; exact IntsAre.snoc hq _ _, (fun y hy => by
              rcases List.mem_append.mp hy with hy | hy
              · exact hqn y hy
              · rw [List.mem_singleton.mp hy]; omega), by simp [hbs], by simp only [List.length_append, List.length_singleton]; omega⟩
        · repeat walk_at "w"
          exact skip _ _ (by assumption) ⟨by walk_at "lk", by walk_at "lk", by walk_at "lk", by walk_at "lk", by walk_at "lk"⟩
      · rintro Z₃ W₃ s₃ ⟨rfl, m, bs, q, qv, rfl, ⟨k1, k2, k3, k4, k5⟩, hq, hqn, hbs, hcf⟩ H'
        clear H5
        repeat walk_at "w"
        rename St _ _ _ _ => H5
        refine x_while (fun N Z' W' => Z' = Z₃ ∧ ∃ m lav bs q qv x t, A10 (N = n - x) (W' = (qa, LIST qv) :: (ua, LIST (us.map fun p => Value.ref p.1)) :: (la, LIST lav) :: (fo, LIST (bs.map Value.bool)) :: (L, NS m) :: (fam us ++ W)) (SpLk m ga fo la ua qa) (m (Str.ofString "at") = some (.int ((x : Nat) : Int) t)) (lav.length = R.length) (INTS lav) (IntsAre qv (nats q)) ((∀ x ∈ q, x < n)) (bs.length = n) (q.length + cf bs ≤ n)) _ H5
          ⟨rfl, _, lav, bs, q, qv, 0, _, rfl, rfl, ⟨by walk_at "lk", by walk_at "lk", by walk_at "lk", by walk_at "lk", by walk_at "lk"⟩, by walk_at "lk", by omega, hint, hq, hqn, hbs, hcf⟩ ?_
        clear H5 hlav hint hq hqn hbs hcf k1 k2 k3 k4 k5
        rintro N Z₄ W₄ s₄ QT ⟨rfl, m, lav, bs, q, qv, x, t, rfl, rfl, ⟨k1, k2, k3, k4, k5⟩, k6, hlav, hint, hq, hqn, hbs, hcf⟩ H'
        have hqv := nats_len hq
        repeat walk_at "w"
        refine if_dec (fun hlt => ?_) (fun hge => ?_)
        · have hxl : x < q.length := by omega
          obtain ⟨t5, e5⟩ := nats_get hq (List.getElem?_eq_getElem hxl)
          have hqx := hqn _ (List.getElem_mem hxl)
          generalize q[x] = y at e5 hqx
          have hy : y < us.length := by rw [hU.1]; omega
          obtain ⟨pa, px, pe⟩ : ∃ pa pl, us[y]? = some (pa, pl) := ⟨us[y].1, us[y].2, by rw [List.getElem?_eq_getElem hy]⟩
          have f2 : (us.map fun p => Value.ref p.1)[y]? = some (.ref pa) := by rw [List.getElem?_map, pe]; rfl
          obtain ⟨pl2, q1, q2, q3⟩ := hU.2 _ (List.mem_of_getElem? pe)
          have hpl : px.length = pl2.length := nats_len q1
          repeat walk_at "w"
          rename St _ _ _ _ => H5
          refine fg_list (xs := px) (fun i Z₅ W₅ => Z₅ = Z₄ ∧ ∃ m lav bs q qv, A9 (W₅ = (qa, LIST qv) :: (ua, LIST (us.map fun p => Value.ref p.1)) :: (la, LIST lav) :: (fo, LIST (bs.map Value.bool)) :: (L, NS m) :: (fam us ++ W)) (SpLk m ga fo la ua qa) (m (Str.ofString "at") = some (.int ((x : Nat) : Int) t)) (lav.length = R.length) (INTS lav) (IntsAre qv (nats q)) ((∀ x ∈ q, x < n)) (bs.length = n) (q.length + cf bs ≤ n)) H5 hh
            ⟨rfl, m, lav, bs, q, qv, rfl, ⟨k1, k2, k3, k4, k5⟩, k6, hlav, hint, hq, hqn, hbs, hcf⟩ ?_ (.inl fun _ _ => rfl) ?_ ?_
          · rintro i Z₅ W₅ hi ⟨rfl, m, lav, bs, q, qv, rfl, -⟩
            exact .inl (.tail _ (.tail _ (.tail _ (.tail _ (.tail _ (List.mem_append_left _ (fam_mem pe)))))))
          · clear H5 hlav hint hq hqn hbs hcf k1 k2 k3 k4 k5 k6 hlt hxl hqv
            rintro it i v Z₅ W₅ s₅ QT hi hv ⟨rfl, m, lav, bs, q, qv, rfl, ⟨k1, k2, k3, k4, k5⟩, k6, hlav, hint, hq, hqn, hbs, hcf⟩ H'
            have hi2 : i < pl2.length := by omega
            obtain ⟨t6, e6⟩ := nats_get q1 (List.getElem?_eq_getElem hi2)
            obtain rfl : v = .int (pl2[i] : Nat) t6 := Option.some.inj (hv.symm.trans e6)
            have hj := q2 _ (List.getElem_mem hi2)
            generalize pl2[i] = j at hj
            obtain ⟨rp, rdx, rta, rm, rt3, rt4, rxs, e3, r1, r2, r3, r4, r5, r6, r7⟩ := g20 j hj
            have hb := g28.lefts R[j] (List.getElem_mem hj)
            generalize R[j].1 = y2 at hb r4
            obtain ⟨z, rfl⟩ := Int.eq_ofNat_of_zero_le hb.1
            obtain ⟨lx, lt, el⟩ := hint.at (i := j) (by omega)
            have hz : z < bs.length := by omega
            have f1 : (bs.map Value.bool)[z]? = some (.bool bs[z]) := by rw [List.getElem?_map, List.getElem?_eq_getElem hz]; rfl
            have hqv := nats_len hq
            have hmap : (bs.map Value.bool).length = n := by simp [hbs]
            repeat walk_at "w"
            have fin : ∀ m' s' lv, St c Z₅ ((it, LITER pa (i + 1)) :: (qa, LIST qv) :: (ua, LIST (us.map fun p => Value.ref p.1)) :: (la, LIST lv) :: (fo, LIST (bs.map Value.bool)) :: (L, NS m') :: (fam us ++ W)) s' → lv.length = R.length → INTS lv → SpLk m' ga fo la ua qa → m' (Str.ofString "at") = some (.int ((x : Nat) : Int) t) →
              QT .next s' :=
              fun m' s' lv H' hl hi hk ht => ⟨_, _, H', _, rfl, rfl, m', lv, bs, q, qv, rfl, hk, ht, hl, hi, hq, hqn, hbs, hcf⟩
            refine if_bool (fun _ => ?_) (fun _ => ?_)
            · repeat walk_at "w"
              cases hbx : bs[z] with
              | true =>
                rw [hbx] at f1
                repeat walk_at "w"
                exact fin _ _ _ (by assumption) (by simp [hlav]) (hint.set _ _ _) ⟨by walk_at "lk", by walk_at "lk", by walk_at "lk", by walk_at "lk", by walk_at "lk"⟩ (by walk_at "lk")
              | false =>
                rw [hbx] at f1
                have hcs := cf_set (bs := bs) (i := z) (by rw [List.getElem?_eq_getElem hz, hbx])
                repeat walk_at "w"
                rename St _ _ _ _ => H9
                rw [show (bs.map Value.bool).set z (.bool true) = (bs.set z true).map Value.bool by rw [List.map_set]] at H9
                exact ⟨_, _, H9, _, rfl, rfl, _, _, bs.set z true, q ++ [z], _, rfl, ⟨by walk_at "lk", by walk_at "lk", by walk_at "lk", by walk_at "lk", by walk_at "lk"⟩, by walk_at "lk", by simp [hlav], hint.set _ _ _, by unfold nats; rw [List.map_append]; exact IntsAre.snoc hq _ _, (fun y hy => by
                  rcases List.mem_append.mp hy with hy | hy
                  · exact hqn y hy
                  · rw [List.mem_singleton.mp hy]; omega), by simp [hbs], by simp only [List.length_append, List.length_singleton]; omega⟩
            · repeat walk_at "w"
              exact fin _ _ _ (by assumption) (by simp [hlav]) (hint.set _ _ _) ⟨by walk_at "lk", by walk_at "lk", by walk_at "lk", by walk_at "lk", by walk_at "lk"⟩ (by walk_at "lk")
          · rintro Z₅ W₅ s₅ ⟨rfl, m, lav, bs, q, qv, rfl, ⟨k1, k2, k3, k4, k5⟩, k6, hlav, hint, hq, hqn, hbs, hcf⟩ H'
            clear H5
            repeat walk_at "w"
            exact ⟨_, _, by assumption, n - (x + 1), by omega, rfl, _, lav, bs, q, qv, x + 1, _, rfl, rfl, ⟨by walk_at "lk", by walk_at "lk", by walk_at "lk", by walk_at "lk", by walk_at "lk"⟩, by walk_at "lk", hlav, hint, hq, hqn, hbs, hcf⟩
        · repeat walk_at "w"
          refine k _ bs _ hbs (St.sub (by assumption) ?_)
          exact .cons _ (.cons _ (.cons _ (.cons_cons _ (.cons _ (List.sublist_append_right _ _)))))
theorem nullable_spec (H : St c Z W s) (hA : Am A 6) (hg : GRAM Z ga R n tc)
    (k : ∀ a (bs : List Bool) s', bs.length = n → St c Z ((a, LIST (bs.map Value.bool)) :: W) s' → Q (.ref a) s') : wpAny (model PG c.w) A (call (.ref 33) [.ref ga]) Q E s := by
  obtain ⟨dga, gna, gra, gba, goa, gwa, mg, gnv, grv, gbv, gov, gwv, gtt, g⟩ := id hg
  obtain ⟨g1, g2, g3, g4, g5, g6, g7, g8, g9, g10, g11, g12, g13, g14, g15, g16, g17, g18, g19, g20, g21, g22, g23, g24, g25, g26, g27, g28⟩ := g
  have w1 := g28.rules
  have w2 := g28.items
  have w3 := g28.syms
  have w4 := g28.terms
  refine' wpAny_call (enter (binds := [(Str.ofString "grammar", .ref ga)]) H hA ?ho ?hcd ?hb ?hloc ?hcell ?h1 ?h2 ?h3 ?h4)
  walk_at "ent"
  intro L s₁ H₁
  rw [ms_lookup] at H₁
  simp only [List.reverse_cons, List.reverse_nil, List.nil_append, List.cons_append, ms] at H₁
  clear H
  repeat walk_at "w"
  rename St _ _ _ _ => H₂
  refine r_rep H₂ (H₂.get (.head _)) (by omega) (by omega) fun la s₂ H₃ => ?_
  rw [Int.toNat_natCast] at H₃
  clear H₂
  repeat walk_at "w"
  rename St _ _ _ _ => H₂
  refine spread_spec H₂ (by walk_at "am") hg At.head fun a bs s₃ hbs H₄ => ?_
  exact k _ bs _ hbs (St.sub H₄ (.cons_cons _ (.cons _ (.cons _ (.cons _ (.refl _))))))
end
set_option maxRecDepth 100000
set_option maxHeartbeats 1000000
section
variable {c : Fix} {Z : List (Addr × Obj)} {W : List (Addr × (Obj → Prop))} {s : Shared} {A : Around} {E : Value → Shared → Prop} {Q : Value → Shared → Prop}
  {ga : Addr} {R : Rls} {n tc : Nat}
theorem firsts_spec (H : St c Z W s) (hA : Am A 8) (hg : GRAM Z ga R n tc)
    (k : ∀ a fv (F : List Nat) s', F.length = n → (∀ x ∈ F, x < TOP) → IntsAre fv (nats F) → St c Z ((a, LIST fv) :: W) s' → Q (.ref a) s') : wpAny (model PG c.w) A (call (.ref 47) [.ref ga]) Q E s := by
  have hh : A.handled = none := hA.hh
  obtain ⟨dga, gna, gra, gba, goa, gwa, mg, gnv, grv, gbv, gov, gwv, gtt, g⟩ := id hg
  obtain ⟨g1, g2, g3, g4, g5, g6, g7, g8, g9, g10, g11, g12, g13, g14, g15, g16, g17, g18, g19, g20, g21, g22, g23, g24, g25, g26, g27, g28⟩ := g
  have w1 := g28.rules
  have w2 := g28.items
  have w3 := g28.syms
  have w4 := g28.terms
  refine' wpAny_call (enter (binds := [(Str.ofString "grammar", .ref ga)]) H hA ?ho ?hcd ?hb ?hloc ?hcell ?h1 ?h2 ?h3 ?h4)
  walk_at "ent"
  intro L s₁ H₁
  rw [ms_lookup] at H₁
  simp only [List.reverse_cons, List.reverse_nil, List.nil_append, List.cons_append, ms] at H₁
  clear H
  repeat walk_at "w"
  rename St _ _ _ _ => H₂
  refine nullable_spec H₂ (by walk_at "am") hg fun na bs s₂ hbs H₃ => ?_
  clear H₂
  repeat walk_at "w"
  rename_i fa _ _ _ _ ra _ H₂
  refine fg_range (n := n) (fun i Z' W' => Z' = Z ∧ ∃ m F fv, A7 (W' = (fa, LIST fv) :: (na, LIST (bs.map Value.bool)) :: (L, NS m) :: W) (m (Str.ofString "grammar") = some (.ref ga)) (m (Str.ofString "nullables") = some (.ref na)) (m (Str.ofString "firsts") = some (.ref fa)) (F.length = i) ((∀ x ∈ F, x < TOP)) (IntsAre fv (nats F))) H₂ hh (by omega) ⟨rfl, _, [], [], rfl, by walk_at "lk", by walk_at "lk", by walk_at "lk", rfl, (fun _ h => nomatch h), .nil⟩ (.inl fun _ _ => rfl) ?_ ?_
  · clear H₂
    rintro it i v Z' W' s' QT hi ⟨t, rfl⟩ ⟨rfl, m, F, fv, rfl, m1, m2, m3, hF, hFt, hFv⟩ H'
    have hfl := nats_len hFv
    repeat walk_at "w"
    have fin : ∀ m' s' x t, x < TOP → St c Z' ((it, RITER 0 n (i + 1)) :: (fa, LIST (fv ++ [.int ((x : Nat) : Int) t])) :: (na, LIST (bs.map Value.bool)) :: (L, NS m') :: W) s' → m' (Str.ofString "grammar") = some (.ref ga) → m' (Str.ofString "nullables") = some (.ref na) → m' (Str.ofString "firsts") = some (.ref fa) →
        QT .next s' :=
      fun m' s' x t hx H' a1 a2 a3 => ⟨_, _, H', _, rfl, rfl, m', F ++ [x], _, rfl, a1, a2, a3, by simp [hF], (fun y hy => by
        rcases List.mem_append.mp hy with hy | hy
        · exact hFt y hy
        · rw [List.mem_singleton.mp hy]; exact hx), by unfold nats; rw [List.map_append]; exact IntsAre.snoc hFv _ _⟩
    refine if_dec (fun _ => ?_) (fun _ => ?_)
    · repeat walk_at "w"
      rename St _ _ _ _ => H9
      have e : (1 : Int) * 2 ^ ((i : Int)).toNat = ((2 ^ i : Nat) : Int) := by rw [Int.toNat_natCast]; simp
      rw [e] at H9
      exact fin _ _ (2 ^ i) _ (Nat.pow_lt_pow_right (by decide) (by omega)) H9 (by walk_at "lk") (by walk_at "lk") (by walk_at "lk")
    · repeat walk_at "w"
      rename St _ _ _ _ => H9
      exact fin _ _ 0 _ (Nat.two_pow_pos 50) H9 (by walk_at "lk") (by walk_at "lk") (by walk_at "lk")
  · rintro Z' W' s' ⟨rfl, m, F, fv, rfl, m1, m2, m3, hF, hFt, hFv⟩ H'
    clear H₂
    iterate 3 walk_at "w"

    rename St _ _ _ _ => H5
    refine x_while (fun N Z₁ W₁ => Z₁ = Z' ∧ ∃ m F fv gr, A9 (N = 2 * mu F + Bool.toNat gr) (W₁ = (fa, LIST fv) :: (na, LIST (bs.map Value.bool)) :: (L, NS m) :: W) (m (Str.ofString "grammar") = some (.ref ga)) (m (Str.ofString "nullables") = some (.ref na)) (m (Str.ofString "firsts") = some (.ref fa)) (m (Str.ofString "is_grown") = some (.bool gr)) (F.length = n) ((∀ x ∈ F, x < TOP)) (IntsAre fv (nats F))) _ H5 ⟨rfl, _, F, fv, true, rfl, rfl, by walk_at "lk", by walk_at "lk", by walk_at "lk", by walk_at "lk", hF, hFt, hFv⟩ ?_
    clear H5 hF hFt hFv m1 m2 m3
    rintro N Z₁ W₁ s₁ QT ⟨rfl, m, F, fv, gr, rfl, rfl, m1, m2, m3, m4, hF, hFt, hFv⟩ H'
    repeat walk_at "w"
    refine if_bool (fun hg1 => ?_) (fun _ => ?_)
    · subst hg1
      repeat walk_at "w"
      rename St _ _ _ _ => H5
      refine fg_list (xs := grv) (fun i Z₂ W₂ => Z₂ = Z₁ ∧ ∃ m F' fv' gr', A9 (W₂ = (fa, LIST fv') :: (na, LIST (bs.map Value.bool)) :: (L, NS m) :: W) (m (Str.ofString "grammar") = some (.ref ga)) (m (Str.ofString "nullables") = some (.ref na)) (m (Str.ofString "firsts") = some (.ref fa)) (m (Str.ofString "is_grown") = some (.bool gr')) (F'.length = n) ((∀ x ∈ F', x < TOP)) (IntsAre fv' (nats F')) (mu F' + Bool.toNat gr' ≤ mu F)) H5 hh ⟨rfl, _, F, fv, false, rfl, by walk_at "lk", by walk_at "lk", by walk_at "lk", by walk_at "lk", hF, hFt, hFv, Nat.le_refl _⟩ ?_ (.inl fun _ _ => rfl) ?_ ?_
      · rintro i Z₂ W₂ hi ⟨rfl, -⟩
        exact .inr g18
      · clear H5 m1 m2 m3 m4
        rintro it i v Z₂ W₂ s₂ QT hi hv ⟨rfl, m, F', fv', gr', rfl, m1, m2, m3, m4, hF', hFt', hFv', hmu⟩ H'
        have hi' : i < R.length := by omega
        obtain ⟨rp, rdx, rta, rm, rt3, rt4, rxs, e3, r1, r2, r3, r4, r5, r6, r7⟩ := g20 i hi'
        obtain rfl : v = .ref rp := Option.some.inj (hv.symm.trans e3)
        have hb := g28.lefts R[i] (List.getElem_mem hi')
        generalize R[i].1 = y at hb r4
        obtain ⟨x, rfl⟩ := Int.eq_ofNat_of_zero_le hb.1
        have hx : x < F'.length := by omega
        obtain ⟨t5, e5⟩ := nats_get hFv' (List.getElem?_eq_getElem hx)
        have hfl := nats_len hFv'
        repeat walk_at "w"
        rename St _ _ _ _ => H5
        refine firstof_spec (bs := bs) (F := nats F') (r := R[i].2) H5 (by walk_at "am") (.inr r6) r7 (by walk_at "at") (by walk_at "at") hFv' (fun x hx => ?_) (by omega) (by simp [nats]; omega) fun fa' ft s₃ H₇ => ?_
        · have := g28.rights R[i] (List.getElem_mem hi') x hx
          simp [nats]
          omega
        clear H5
        rw [fo_nat0] at H₇
        dsimp only at H₇
        have hft2 := foN_top (bs := bs) hFt' R[i].2 0 (Nat.two_pow_pos 50)
        generalize foN bs F' R[i].2 0 = ff at H₇ hft2
        repeat walk_at "w"
        rename St _ _ _ _ => H5
        refine t_tup (H5.get (.head _)) (by decide) (by decide) rfl ?_
        repeat walk_at "w"
        refine if_bool (fun hne => ?_) (fun _ => ?_)
        · rw [bitOr_nat] at hne
          have hne2 : F'[x] ||| ff.1 ≠ F'[x] := fun e => by rw [e] at hne; simp at hne
          have htop := or_top (hFt' _ (List.getElem_mem hx)) hft2
          have hdec := mu_set (F := F') (i := x) (b := F'[x] ||| ff.1) (List.getElem?_eq_getElem hx) (or_grows hne2 htop)
          repeat walk_at "w"
          rename St _ _ _ _ => H9
          rw [bitOr_nat] at H9
          exact ⟨_, _, St.sub H9 (.cons _ (.refl _)), _, rfl, rfl, _, F'.set x (F'[x] ||| ff.1), _, true, rfl, by walk_at "lk", by walk_at "lk", by walk_at "lk", by walk_at "lk", by simp [hF'], (fun y hy => by
            rcases List.mem_or_eq_of_mem_set hy with hy | rfl
            · exact hFt' y hy
            · exact htop), nats_set hFv' _ _ _, by show mu _ + 1 ≤ _; omega⟩
        · repeat walk_at "w"
          rename St _ _ _ _ => H9
          exact ⟨_, _, St.sub H9 (.cons _ (.refl _)), _, rfl, rfl, _, F', fv', gr', rfl, by walk_at "lk", by walk_at "lk", by walk_at "lk", by walk_at "lk", hF', hFt', hFv', hmu⟩
      · rintro Z₂ W₂ s₂ ⟨rfl, m, F', fv', gr', rfl, m1, m2, m3, m4, hF', hFt', hFv', hmu⟩ H'
        clear H5
        repeat walk_at "w"
        refine ⟨_, _, H', 2 * mu F' + gr'.toNat, ?_, rfl, m, F', fv', gr', rfl, rfl, m1, m2, m3, m4, hF', hFt', hFv'⟩
        show 2 * mu F' + gr'.toNat < 2 * mu F + 1
        cases gr' <;> simp at hmu ⊢ <;> omega
    · repeat walk_at "w"
      exact k _ _ F _ hF hFt hFv (St.sub (by assumption) (.cons_cons _ (.cons _ (.cons _ (.refl _)))))
end
set_option maxRecDepth 100000
set_option maxHeartbeats 1000000
section
variable {c : Fix} {Z : List (Addr × Obj)} {W : List (Addr × (Obj → Prop))} {s : Shared} {A : Around} {E : Value → Shared → Prop} {Q : Value → Shared → Prop}
  {ga : Addr} {R : Rls} {n tc : Nat}
theorem rule_make {j l o : Int} {ta : Addr} {t u v : Tok} (H : St c Z W s) (hA : Am A 4)
    (k : ∀ x dx m s', St c Z ((x, INST 113 dx) :: (dx, IDICT 7 m) :: W) s' → m (Str.ofString "number") = some (.int j t) → m (Str.ofString "left") = some (.int l u) → m (Str.ofString "right") = some (.ref ta) → Q (.ref x) s') :
    wpAny (model PG c.w) A (call (.ref 113) [.int j t, .int l u, .ref ta, .int o v]) Q E s := by
  refine g_make H hA (mk113 _) (fun x dx s₁ H₁ A' hA' => ?_)
  clear H
  refine' enter (binds := [(Str.ofString "self", .ref x), (Str.ofString "number", .int j t), (Str.ofString "left", .int l u), (Str.ofString "right", .ref ta), (Str.ofString "level_of", .int o v), (Str.ofString "action", .none), (Str.ofString "line", .int 0 333), (Str.ofString "before", .int 0 334)]) H₁ hA' ?ho ?hcd ?hb ?hloc ?hcell ?h1 ?h2 ?h3 ?h4
  walk_at "entd"
  intro L s₁ H
  rw [ms_lookup] at H
  simp only [List.reverse_cons, List.reverse_nil, List.nil_append, List.cons_append, ms] at H
  clear H₁
  repeat walk_at "w"
  exact ⟨rfl, k x dx _ _ (St.tail (by assumption)) (by walk_at "lk") (by walk_at "lk") (by walk_at "lk")⟩
theorem last_spec {sa : Addr} {xs : List Value} {r : List Int} {b : Int} {t : Tok} (H : St c Z W s) (hA : Am A 2) (hs : At Z W sa (TUP xs)) (hr : IntsAre xs r) (k : ∀ i t s', St c Z W s' → Q (.int i t) s') :
    wpAny (model PG c.w) A (call (.ref 206) [.ref sa, .int b t]) Q E s := by
  have hh : A.handled = none := hA.hh
  refine' wpAny_call (enter (binds := [(Str.ofString "right", .ref sa), (Str.ofString "terminal_count", .int b t)]) H hA ?ho ?hcd ?hb ?hloc ?hcell ?h1 ?h2 ?h3 ?h4)
  walk_at "ent"
  intro L s₁ H₁
  rw [ms_lookup] at H₁
  simp only [List.reverse_cons, List.reverse_nil, List.nil_append, List.cons_append, ms] at H₁
  clear H
  repeat walk_at "w"
  rename St _ _ _ _ => H₂
  have hlen := hr.length
  refine fg_tup (xs := xs) (fun i Z' W' => Z' = Z ∧ ∃ m f u, A3 (W' = (L, NS m) :: W) (m (Str.ofString "terminal_count") = some (.int b t)) (m (Str.ofString "found") = some (.int f u))) H₂ hh ⟨rfl, _, _, _, rfl, by walk_at "lk", by walk_at "lk"⟩ ?_ (.inl fun _ _ => rfl) ?_ ?_
  · rintro i Z' W' hi ⟨rfl, m, f, u, rfl, -⟩
    exact hs.cons
  · clear H₂
    rintro it i v Z' W' s' QT hi hv ⟨rfl, m, f, u, rfl, m1, m2⟩ H'
    obtain ⟨u2, e⟩ := ints_at hr (List.getElem?_eq_getElem (show i < r.length by omega))
    obtain rfl : v = .int r[i] u2 := Option.some.inj (hv.symm.trans e)
    repeat walk_at "w"
    refine if_dec (fun _ => ?_) (fun _ => ?_)
    · repeat walk_at "w"
      exact ⟨_, _, by assumption, _, rfl, rfl, _, _, _, rfl, by walk_at "lk", by walk_at "lk"⟩
    · repeat walk_at "w"
      exact ⟨_, _, by assumption, _, rfl, rfl, _, _, _, rfl, by walk_at "lk", by walk_at "lk"⟩
  · rintro Z' W' s' ⟨rfl, m, f, u, rfl, m1, m2⟩ H'
    clear H₂
    repeat walk_at "w"
    exact k _ _ _ (St.tail (by assumption))
theorem grammar_make {na ra la : Addr} {nv rv : List Value} {st : Int} {t u : Tok} (H : St c Z W s) (hA : Am A 6) (hn : At Z W na (LIST nv)) (hnl : nv.length = n) (hr : At Z W ra (LIST rv)) (hrl : rv.length = R.length)
    (hrule : ∀ i (h : i < R.length), ∃ a dx ta m t u xs, rv[i]? = some (.ref a) ∧ RULE Z a i R[i].1 R[i].2 dx ta m t u xs) (hw : Well R n tc)
    (k : ∀ x dx m ba oa wa us ov wv s', St c Z ((wa, LIST wv) :: (oa, LIST ov) :: (ba, LIST (us.map fun p => Value.ref p.1)) :: (x, INST 195 dx) :: (dx, IDICT 10 m) :: (fam us ++ W)) s' →
       us.length = n → (∀ s' : Nat, s' < n → ∃ a xs, us[s']? = some (a, xs) ∧ IntsAre xs (nats (byl R s'))) → IntsAre ov (nats ((List.range R.length).map (offN R))) → IntsAre wv (nats (own R)) →
       m (Str.ofString "names") = some (.ref na) → m (Str.ofString "rules") = some (.ref ra) → m (Str.ofString "by_left") = some (.ref ba) → m (Str.ofString "offsets") = some (.ref oa) → m (Str.ofString "owners") = some (.ref wa) → m (Str.ofString "terminal_count") = some (.int tc t) →
       m (Str.ofString "symbol_count") = none → m (Str.ofString "is_terminal") = none → m (Str.ofString "rules_of") = none → m (Str.ofString "item") = none → m (Str.ofString "rule_of") = none → m (Str.ofString "dot_of") = none → m (Str.ofString "after") = none → Q (.ref x) s') :
    wpAny (model PG c.w) A (call (.ref 195) [.ref na, .int tc t, .ref ra, .ref la, .none, .int st u]) Q E s := by
  refine g_make H hA (mk195 _) (fun x dx s₁ H₁ A' hA' => ?_)
  clear H
  have hh : A'.handled = none := hA'.hh
  have w1 := hw.rules
  have w2 := hw.items
  have w3 := hw.syms
  refine' enter (binds := [(Str.ofString "self", .ref x), (Str.ofString "names", .ref na), (Str.ofString "terminal_count", .int tc t), (Str.ofString "rules", .ref ra), (Str.ofString "levels", .ref la), (Str.ofString "expect", .none), (Str.ofString "start", .int st u)]) H₁ hA' ?ho ?hcd ?hb ?hloc ?hcell ?h1 ?h2 ?h3 ?h4
  walk_at "ent"
  intro L s₁ H
  rw [ms_lookup] at H
  simp only [List.reverse_cons, List.reverse_nil, List.nil_append, List.cons_append, ms] at H
  clear H₁
  repeat walk_at "w"
  rename St _ _ _ _ => H₂
  obtain ⟨X, hX⟩ : ∃ X, X = (L, NS (up (up (up (up (up (up (up (fun x => none) (Str.ofString "self") (.ref x)) (Str.ofString "names") (.ref na)) (Str.ofString "terminal_count") (.int tc t)) (Str.ofString "rules") (.ref ra)) (Str.ofString "levels") (.ref la)) (Str.ofString "expect") .none) (Str.ofString "start") (.int st u))) :: (x, INST 195 dx) ::
      [(dx, IDICT (0 + 1 + 1 + 1 + 1 + 1 + 1) (up (up (up (up (up (up (fun x => none) (Str.ofString "names") (.ref na)) (Str.ofString "terminal_count") (.int tc t)) (Str.ofString "rules") (.ref ra)) (Str.ofString "levels") (.ref la)) (Str.ofString "expect") .none) (Str.ofString "start") (.int st u)))] := ⟨_, rfl⟩
  refine cg_list (xs := nv) (fun i ys Z' W' => Z' = Z ∧ ∃ us, A4 (W' = fam us ++ (X ++ W)) (ys = us.map (fun p => Value.ref p.1)) (us.length = i) (∀ p ∈ us, p.2 = []))
    H₂ hh ⟨rfl, [], by rw [hX]; rfl, rfl, rfl, fun _ h => nomatch h⟩ (by omega) ?_ (.inl fun _ _ => rfl) ?_ ?_ (by decide) rfl
  · rintro i ys Z' W' hi ⟨rfl, us, rfl, -⟩
    exact hn.more.more
  · rintro it C D i v ys m Z' W' s' QT hi hy hv ⟨rfl, us, rfl, rfl, hul, hue⟩ H'
    clear H₂ hX
    iterate 2 walk_at "w"
    refine compElt_nil ?_
    repeat walk_at "w"
    rename_i a _ H3
    exact ⟨_, _, _, H3.to4, rfl, us ++ [(a, [])], by rw [fam_append]; rfl, by simp, by simp [hul], fun p hp => by
      rcases List.mem_append.mp hp with hp | hp
      · exact hue p hp
      · rw [List.mem_singleton.mp hp]⟩
  · rintro C ba ys m Z' W' s' GG ⟨rfl, us, rfl, rfl, hul, hue⟩ H'
    clear H₂
    refine ⟨_, _, _, _, rfl, H', fun s₃ H₃ => ?_⟩
    have hul' : us.length = n := by omega
    have hU : ∀ s' : Nat, s' < n → ∃ a xs, us[s']? = some (a, xs) ∧ IntsAre xs (nats (bylTo R 0 s')) := fun s' hs' => by
      refine ⟨us[s'].1, us[s'].2, List.getElem?_eq_getElem (by omega), ?_⟩
      rw [hue _ (List.getElem_mem (by omega))]
      exact .nil
    clear hue hul H'
    have H₄ := St.back H₃
    subst hX
    clear H₃
    simp only [List.cons_append, List.nil_append] at H₄
    repeat walk_at "w"
    rename_i oa _ _ wa _ _ _ H5
    have key : ∃ mm m0, St c Z' ((wa, LIST []) :: (oa, LIST []) :: (ba, LIST (us.map fun p => Value.ref p.1)) :: (L, NS m0) :: (x, INST 195 dx) :: (dx, IDICT 9 mm) :: (fam us ++ W)) _ ∧ m0 (Str.ofString "self") = some (.ref x) ∧
       mm (Str.ofString "names") = some (.ref na) ∧ mm (Str.ofString "rules") = some (.ref ra) ∧ mm (Str.ofString "by_left") = some (.ref ba) ∧ mm (Str.ofString "offsets") = some (.ref oa) ∧ mm (Str.ofString "owners") = some (.ref wa) ∧ mm (Str.ofString "terminal_count") = some (.int tc t) ∧
       mm (Str.ofString "symbol_count") = none ∧ mm (Str.ofString "is_terminal") = none ∧ mm (Str.ofString "rules_of") = none ∧ mm (Str.ofString "item") = none ∧ mm (Str.ofString "rule_of") = none ∧ mm (Str.ofString "dot_of") = none ∧ mm (Str.ofString "after") = none :=
      ⟨_, _, H5, by walk_at "lk", by walk_at "lk", by walk_at "lk", by walk_at "lk", by walk_at "lk", by walk_at "lk", by walk_at "lk", by walk_at "lk0", by walk_at "lk0", by walk_at "lk0", by walk_at "lk0", by walk_at "lk0", by walk_at "lk0", by walk_at "lk0"⟩
    clear H5
    obtain ⟨mm, m0, H5, s1, q1, q2, q3, q4, q5, q6, q7, q8, q9, q10, q11, q12, q13⟩ := key
    refine fg_list (xs := rv) (fun i Z'' W'' => Z'' = Z' ∧ ∃ m us ov wv, A6 (W'' = (wa, LIST wv) :: (oa, LIST ov) :: (ba, LIST (us.map fun p => Value.ref p.1)) :: (L, NS m) :: (x, INST 195 dx) :: (dx, IDICT 9 mm) :: (fam us ++ W)) (m (Str.ofString "self") = some (.ref x)) (us.length = n) ((∀ s' : Nat, s' < n → ∃ a xs, us[s']? = some (a, xs) ∧ IntsAre xs (nats (bylTo R i s')))) (IntsAre ov (nats ((List.range i).map (offN R)))) (IntsAre wv (nats (own (R.take i))))) H5 hh
      ⟨rfl, m0, us, [], [], rfl, s1, hul', hU, .nil, .nil⟩ ?_ (.inl fun _ _ => rfl) ?_ ?_
    · rintro i Z'' W'' hi ⟨rfl, m, us, ov, wv, rfl, -⟩
      exact hr.more.cons.cons.cons.cons.cons.cons
    · clear H5 s1 hul' hU
      rintro it i v Z'' W'' s'' QT hi hv ⟨rfl, m, us, ov, wv, rfl, s1, hul, hU, hov, hwv⟩ H'
      have hi' : i < R.length := by omega
      obtain ⟨rp, rdx, rta, rm, rt3, rt4, rxs, e3, r1, r2, r3, r4, r5, r6, r7⟩ := hrule i hi'
      obtain rfl : v = .ref rp := Option.some.inj (hv.symm.trans e3)
      have hb := hw.lefts R[i] (List.getElem_mem hi')
      have hleft := left_at hi'
      have hon := offN_succ hi'
      have hol := offN_le (R := R) (i := i + 1) hi'
      have hrx : rxs.length = R[i].2.length := r7.length
      generalize hy : R[i].1 = y at hb r4 hleft
      obtain ⟨l, rfl⟩ := Int.eq_ofNat_of_zero_le hb.1
      obtain ⟨pa, px, pe, pi⟩ := hU l (by omega)
      have f2 : (us.map fun p => Value.ref p.1)[l]? = some (.ref pa) := by rw [List.getElem?_map, pe]; rfl
      have hpx : px.length ≤ 60 := by
        have h1 := nats_len pi
        have h2 : (bylTo R i (l : Int)).length ≤ i := by unfold bylTo; have := List.length_filter_le (fun j => decide (left R j = (l : Int))) (List.range i); simpa using this
        omega
      have hwl := nats_len hwv
      rw [own_take_len] at hwl
      have hovl := nats_len hov
      simp only [List.length_map, List.length_range] at hovl
      repeat walk_at "w"
      rename St _ _ _ _ => H5
      have e1 : ((rxs.length : Int) + 1).toNat = R[i].2.length + 1 := by omega
      refine r_rep H5 (H5.get (.head _)) (by omega) (by omega) fun la2 s6 H6 => ?_
      rw [e1] at H6
      clear H5
      repeat walk_at "w"
      rename St _ _ _ _ => H5
      refine r_extend H5 (by walk_at "rep") (H5.get (.head _)) (by simp; omega) fun s7 H7 => ?_
      clear H5
      repeat walk_at "w"
      rename St _ _ _ _ => H9
      rw [← fst_set (ys := px ++ [.int (i : Int) rt3]) pe, hwl] at H9
      refine ⟨_, _, St.sub H9 (.cons _ (.cons _ (.refl _))), _, rfl, rfl, _, us.set l (pa, px ++ [.int (i : Int) rt3]), _, _, rfl, by walk_at "lk", by simp [hul], ?_, ?_, ?_⟩
      · intro s' hs'
        by_cases hsl : s' = l
        · subst hsl
          refine ⟨pa, _, List.getElem?_set_self (by omega), ?_⟩
          rw [bylTo_succ_hit hleft]
          unfold nats
          rw [List.map_append]
          exact IntsAre.snoc pi _ _
        · obtain ⟨a, xs, h1, h2⟩ := hU s' hs'
          refine ⟨a, xs, by rw [List.getElem?_set_ne (fun e => hsl e.symm)]; exact h1, ?_⟩
          rw [bylTo_succ_miss (by rw [hleft]; intro e; exact hsl (by omega))]
          exact h2
      · rw [List.range_succ, List.map_append]
        unfold nats
        rw [List.map_append]
        exact IntsAre.snoc hov _ _
      · rw [own_succ hi']
        exact ints_app hwv (ints_rep _ _ _)
    · rintro Z'' W'' s'' ⟨rfl, m, us, ov, wv, rfl, s1, hul, hU, hov, hwv⟩ H'
      have hwl := nats_len hwv
      rw [hrl, List.take_of_length_le (Nat.le_refl _), own_len] at hwl
      rw [hrl] at hU hov hwv
      rw [List.take_of_length_le (Nat.le_refl _)] at hwv
      clear H5
      repeat walk_at "w"
      rename St _ _ _ _ => H9
      exact ⟨rfl, k x dx _ ba oa wa us ov wv _ (St.sub H9 (.cons_cons _ (.cons_cons _ (.cons_cons _ (.cons _ (.refl _)))))) hul hU hov hwv (by walk_at "lk") (by walk_at "lk") (by walk_at "lk") (by walk_at "lk") (by walk_at "lk") (by walk_at "lk")
        (by walk_at "lk") (by walk_at "lk") (by walk_at "lk") (by walk_at "lk") (by walk_at "lk") (by walk_at "lk") (by walk_at "lk")⟩
end
set_option maxRecDepth 100000
set_option maxHeartbeats 1000000
/-- pairs, frozen -/
def PAIRS (Z : List (Addr × Obj)) (xs : List Value) (ps : List (Str × List Str)) : Prop :=
  xs.length = ps.length ∧ ∀ (i : Nat) (h : i < ps.length), ∃ p la t vs, xs[i]? = some (.ref p) ∧ Zs Z p (TUP [.str ps[i].1 t, .ref la]) ∧ Zs Z la (LIST vs) ∧ StrsAre vs ps[i].2
structure PsOk (ps : List (Str × List Str)) : Prop where
  ne : ps ≠ []
  len : ps.length ≤ 9
  one : ∀ p ∈ ps, ONE p.1
  parts : (ps.map fun p => p.2.length).sum ≤ 21
def RULES (Z : List (Addr × Obj)) (rv : List Value) (RS : Rls) : Prop := ∀ k (h : k < RS.length), ∃ a dx ta m t u xs, rv[k]? = some (.ref a) ∧ RULE Z a k RS[k].1 RS[k].2 dx ta m t u xs
theorem RULES.snoc {Z Z' : List (Addr × Obj)} {rv : List Value} {RS : Rls} {r : Int × List Int} {a dx ta : Addr} {m : Str → Option Value} {t u : Tok} {xs : List Value} (h : RULES Z rv RS) (hl : rv.length = RS.length) (hz : ∀ p ∈ Z, p ∈ Z') (hr : RULE Z' a RS.length r.1 r.2 dx ta m t u xs) : RULES Z' (rv ++ [.ref a]) (RS ++ [r]) := by
  intro k hk
  rcases Nat.lt_or_ge k RS.length with h1 | h1
  · obtain ⟨a', dx', ta', m', t', u', xs', e, g⟩ := h k h1
    refine ⟨a', dx', ta', m', t', u', xs', by rw [List.getElem?_append_left (by omega)]; exact e, ?_⟩
    rw [List.getElem_append_left h1]
    exact g.mono hz
  · obtain rfl : k = RS.length := by simp at hk; omega
    refine ⟨a, dx, ta, m, t, u, xs, by rw [← hl, List.getElem?_append_right (Nat.le_refl _)]; simp, ?_⟩
    simpa using hr
theorem nit_snoc {R : Rls} {r : Int × List Int} : nit (R ++ [r]) = nit R + (r.2.length + 1) := by unfold nit; rw [List.map_append, List.sum_append]; simp
theorem freeze_fam {c : Fix} {V : List (Addr × (Obj → Prop))} {s : Shared} : ∀ {us : List (Addr × List Value)} {Z : List (Addr × Obj)}, St c Z (fam us ++ V) s → ∃ Z', (∀ p ∈ Z, p ∈ Z') ∧ (∀ p ∈ us, Zs Z' p.1 (LIST p.2)) ∧ St c Z' V s
  | [], Z, H => ⟨Z, fun _ h => h, fun _ h => (nomatch h), H⟩
  | p :: us, Z, H => by
    obtain ⟨o, h1, -, H1⟩ := (show St c Z ((p.1, LIST p.2) :: (fam us ++ V)) s from H).freeze
    obtain ⟨Z', h2, h3, H2⟩ := freeze_fam H1
    refine ⟨Z', fun q hq => h2 _ (.tail _ hq), fun q hq => ?_, H2⟩
    rcases List.mem_cons.mp hq with rfl | hq
    · exact ⟨o, h2 _ (.head _), h1⟩
    · exact h3 q hq
theorem freeze_rule {c : Fix} {Z : List (Addr × Obj)} {W : List (Addr × (Obj → Prop))} {s : Shared} {x dx ta : Addr} {m : Str → Option Value} {xs : List Value} {i : Nat} {l : Int} {r : List Int} {t u : Tok} (H : St c Z ((x, INST 113 dx) :: (dx, IDICT 7 m) :: (ta, TUP xs) :: W) s)
    (m1 : m (Str.ofString "number") = some (.int (i : Int) t)) (m2 : m (Str.ofString "left") = some (.int l u)) (m3 : m (Str.ofString "right") = some (.ref ta)) (hr : IntsAre xs r) :
    ∃ Z', (∀ p ∈ Z, p ∈ Z') ∧ RULE Z' x i l r dx ta m t u xs ∧ St c Z' W s := by
  obtain ⟨o1, p1, -, H1⟩ := H.freeze
  obtain ⟨o2, p2, -, H2⟩ := H1.freeze
  obtain ⟨o3, p3, -, H3⟩ := H2.freeze
  refine ⟨_, fun p hp => .tail _ (.tail _ (.tail _ hp)), ⟨⟨o1, .tail _ (.tail _ (.head _)), p1⟩, ⟨o2, .tail _ (.head _), ?_⟩, m1, m2, m3, ⟨o3, .head _, p3⟩, hr⟩, H3⟩
  obtain ⟨es, n, e, h1, h2, h3⟩ := p2
  exact ⟨es, n, e, Nat.le_trans h1 (by decide), h2, h3⟩
section
variable {c : Fix} {Z : List (Addr × Obj)} {W : List (Addr × (Obj → Prop))} {s : Shared} {A : Around} {E : Value → Shared → Prop} {Q : Value → Shared → Prop}
  {ga : Addr} {R : Rls} {n tc : Nat}
theorem plain_spec {pa : Addr} {xs : List Value} {ps : List (Str × List Str)} (H : St c Z W s) (hA : Am A 10) (hp : Zs Z pa (LIST xs)) (hps : PAIRS Z xs ps) (ok : PsOk ps)
    (k : ∀ ga R n tc Z' s', (∀ p ∈ Z, p ∈ Z') → GRAM Z' ga R n tc → R.length = ps.length + 1 → (∀ i (h : i < ps.length), (right R (1 + i)).length = ps[i].2.length) → St c Z' W s' → Q (.ref ga) s') :
    wpAny (model PG c.w) A (call (.ref 212) [.ref pa]) Q E s := by
  have hh : A.handled = none := hA.hh
  refine' wpAny_call (enterC (binds := [(Str.ofString "pairs", .ref pa), (Str.ofString "start", .none)]) H hA ?ho ?hcd ?hb ?hloc ?hcell ?h1 ?h2 ?h3 ?h4)
  case ho => k_is
  case hcd => k_is
  case hb => exact binds_K (show Frag.In (Kf _) _ from St.KIn (by assumption)) rfl (by k_is) rfl rfl (by with_unfolding_all rfl)
  case hloc => exact rfl
  case hcell => decide
  case h1 => exact rfl
  case h2 => exact rfl
  case h3 => exact rfl
  intro L s₁ H₁
  clear H
  have H : St c Z ((L, NS (up (up (fun _ => none) (Str.ofString "pairs") (.ref pa)) (Str.ofString "start") .none)) :: (L + 1, CELL none) :: W) s₁ := H₁
  clear H₁
  repeat walk_at "w"
  rename_i le _ _ H₂
  refine fg_list (xs := xs) (fun i Z' W' => Z' = Z ∧ ∃ m lv ls, A7 (W' = (le, LIST lv) :: (L, NS m) :: (L + 1, CELL none) :: W) (m (Str.ofString "pairs") = some (.ref pa)) (m (Str.ofString "start") = some .none) (m (Str.ofString "lefts") = some (.ref le)) (StrsAre lv ls) (ls.length ≤ i) ((∀ j (h : j < ps.length), j < i → ps[j].1 ∈ ls))) H₂ hh ⟨rfl, _, [], [], rfl, by walk_at "lk", by walk_at "lk", by walk_at "lk", .nil, Nat.le_refl _, fun j h h0 => absurd h0 (Nat.not_lt_zero _)⟩ ?_ (.inr ⟨⟨_, _, _, rfl⟩, ?_⟩) ?_ ?_
  · rintro i Z' W' hi ⟨rfl, -⟩
    exact .inr hp
  · intro i v hv
    have hi : i < ps.length := by rw [← hps.1]; exact (List.getElem?_eq_some_iff.mp hv).1
    obtain ⟨p, la, t, vs, e, -⟩ := hps.2 i hi
    exact ⟨p, Option.some.inj (hv.symm.trans e)⟩
  · clear H₂
    rintro it i v Z' W' s' QT hi hv ⟨rfl, m, lv, ls, rfl, m1, m2, m3, hls, hll, hin⟩ H'
    have hi' : i < ps.length := by rw [← hps.1]; exact hi
    obtain ⟨p, la, t, vs, e, z1, z2, z3⟩ := hps.2 i hi'
    obtain rfl : v = .ref p := Option.some.inj (hv.symm.trans e)
    have hone := ok.one _ (List.getElem_mem hi')
    have hlen := ok.len
    have hlv := hls.len_eq
    refine r_unpack2 H' hh (.inr z1) fun s' H' => ?_
    repeat walk_at "w"
    refine if_bool (fun h => absurd h (by rw [one_ne_error hone]; simp)) (fun _ => ?_)
    repeat walk_at "w"
    clear H'
    rename St _ _ _ _ => H5
    refine t_first H5 hone (H5.get (.head _)) ?_
    repeat walk_at "w"
    rename St _ _ _ _ => H5
    refine r_in_tup (ys := [Str.ofString "", Str.ofString "$", Str.ofString "'"]) (H5.get (.head _)) (.cons _ _ (.cons _ _ (.cons _ _ .nil))) ?_
    repeat walk_at "w"
    refine if_bool (fun h => absurd h (by rw [one_in hone]; simp)) (fun _ => ?_)
    repeat walk_at "w"
    refine if_bool (fun hmem => ?_) (fun hmem => ?_)
    · repeat walk_at "w"
      rename St _ _ _ _ => H9
      exact ⟨_, _, St.sub H9 (.cons _ (.cons _ (.refl _))), _, rfl, rfl, _, lv, ls, rfl, by walk_at "lk", by walk_at "lk", by walk_at "lk", hls, by omega, fun j h h0 => by
        rcases Nat.lt_or_ge j i with h1 | h1
        · exact hin j h h1
        · obtain rfl : j = i := by omega
          exact any_mem.mp hmem⟩
    · repeat walk_at "w"
      rename St _ _ _ _ => H9
      exact ⟨_, _, St.sub H9 (.cons _ (.cons _ (.refl _))), _, rfl, rfl, _, _, ls ++ [ps[i].1], rfl, by walk_at "lk", by walk_at "lk", by walk_at "lk", strs_snoc hls _ _, by simp only [List.length_append, List.length_singleton]; omega, fun j h h0 => by
        rcases Nat.lt_or_ge j i with h1 | h1
        · exact List.mem_append_left _ (hin j h h1)
        · obtain rfl : j = i := by omega
          exact List.mem_append_right _ (by simp)⟩
  · rintro Z' W' s' ⟨rfl, m, lv, ls, rfl, m1, m2, m3, hls, hll, hin⟩ H'
    clear H₂
    have hps0 : 0 < ps.length := List.length_pos_iff.mpr ok.ne
    have h0 := hin 0 hps0 (by rw [hps.1]; exact hps0)
    obtain ⟨b0, ls', rfl⟩ : ∃ b0 ls', ls = b0 :: ls' := by
      cases ls with
      | nil => cases h0
      | cons b0 ls' => exact ⟨b0, ls', rfl⟩
    have hlv := hls.len_eq
    obtain ⟨t0, e0⟩ := strs_at hls (j := 0) rfl
    have hlen := ok.len
    have hxl := hps.1
    simp only [List.length_cons] at hlv hll
    repeat walk_at "w"
    refine wpAny_isNot_self rfl ?_
    repeat walk_at "w"
    rename St _ _ _ _ => H5
    refine r_eq_len (hA.deeper _) (H5.get (by walk_at "mem")) (H5.get (.head _)) (by show lv.length ≠ 0; omega) ?_
    repeat walk_at "w"
    rename St _ _ _ _ => H5
    refine t_list (H5.get (by walk_at "mem")) (by decide) (by decide) e0 ?_
    repeat walk_at "w"
    refine if_bool (fun h => ?_) (fun h => absurd (any_mem.mpr (List.mem_cons_self ..)) (by rw [h]; simp))
    repeat walk_at "w"
    rename St _ _ _ _ => H5
    refine r_list_tup H5 (own_tup H5) (by decide) fun na s6 H6 => ?_
    clear H5
    iterate 1 walk_at "w"
    repeat walk_at "w"
    rename St _ _ _ _ => H5
    have hpair : ∀ (i : Nat) v, xs[i]? = some v → ∃ T, v = Value.ref T := fun i v hv => by
      have hi : i < ps.length := by rw [← hps.1]; exact (List.getElem?_eq_some_iff.mp hv).1
      obtain ⟨p, la, t, vs, e, -⟩ := hps.2 i hi
      exact ⟨p, Option.some.inj (hv.symm.trans e)⟩
    refine fg_list (xs := xs) (fun i Z'' W'' => Z'' = Z' ∧ ∃ m nv ns, A7 (W'' = (na, LIST nv) :: (le, LIST lv) :: (L, NS m) :: (L + 1, CELL (some (.ref na))) :: W) (m (Str.ofString "pairs") = some (.ref pa)) (m (Str.ofString "lefts") = some (.ref le)) (m (Str.ofString "begin") = some (.str b0 t0)) (StrsAre nv ns) (ns.length ≤ 3 + psum ps i) ((∀ j (h : j < ps.length), j < i → ∀ x ∈ ps[j].2, x ∈ (b0 :: ls') ∨ x ∈ ns))) (St.sub H5 (.cons_cons _ (.cons _ (.refl _)))) hh
      ⟨rfl, _, _, [Str.ofString "$end", Str.ofString "error", Str.ofString "$undefined"], rfl, by walk_at "lk", by walk_at "lk", by walk_at "lk", .cons _ _ (.cons _ _ (.cons _ _ .nil)), Nat.le_refl _, fun j h h0 => absurd h0 (Nat.not_lt_zero _)⟩ ?_ (.inr ⟨⟨_, _, _, rfl⟩, hpair⟩) ?_ ?_
    · rintro i Z'' W'' hi ⟨rfl, -⟩
      exact .inr hp
    · clear H5
      rintro it i v Z'' W'' s'' QT hi hv ⟨rfl, m, nv, ns, rfl, m1, m2, m3, hns, hnl, hnin⟩ H'
      have hi' : i < ps.length := by rw [← hps.1]; exact hi
      obtain ⟨p, la, t, vs, e, z1, z2, z3⟩ := hps.2 i hi'
      obtain rfl : v = .ref p := Option.some.inj (hv.symm.trans e)
      have hsum := psum_succ hi'
      have hsl := psum_le (ps := ps) (i + 1)
      have hparts := ok.parts
      have hvl := z3.len_eq
      refine r_unpack2 H' hh (.inr z1) fun s' H' => ?_
      repeat walk_at "w"
      rename St _ _ _ _ => H5
      refine fg_list (xs := vs) (fun j Z₃ W₃ => Z₃ = Z'' ∧ ∃ m nv ns, A8 (W₃ = (it, LITER pa (i + 1)) :: (na, LIST nv) :: (le, LIST lv) :: (L, NS m) :: (L + 1, CELL (some (.ref na))) :: W) (m (Str.ofString "pairs") = some (.ref pa)) (m (Str.ofString "lefts") = some (.ref le)) (m (Str.ofString "begin") = some (.str b0 t0)) (StrsAre nv ns) (ns.length ≤ 3 + psum ps i + j) ((∀ j (h : j < ps.length), j < i → ∀ x ∈ ps[j].2, x ∈ (b0 :: ls') ∨ x ∈ ns)) ((∀ jj (h : jj < ps[i].2.length), jj < j → ps[i].2[jj] ∈ (b0 :: ls') ∨ ps[i].2[jj] ∈ ns))) H5 hh
        ⟨rfl, _, nv, ns, rfl, by walk_at "lk", by walk_at "lk", by walk_at "lk", hns, hnl, hnin, fun jj h h0 => absurd h0 (Nat.not_lt_zero _)⟩ ?_ ?_ ?_ ?_
      · rintro j Z₃ W₃ hj ⟨rfl, -⟩
        exact .inr z2
      · exact .inl fun _ _ => rfl
      · clear H5 hns hnl hnin m1 m2 m3
        rintro it2 j v Z₃ W₃ s₃ QT hj hv ⟨rfl, m, nv, ns, rfl, m1, m2, m3, hns, hnl, hnin, hnj⟩ H'
        have hj' : j < ps[i].2.length := by omega
        obtain ⟨u, e2⟩ := strs_at z3 (List.getElem?_eq_getElem hj')
        obtain rfl : v = .str ps[i].2[j] u := Option.some.inj (hv.symm.trans e2)
        have hnv := hns.len_eq
        have fin : ∀ m' s', St c Z₃ ((it2, LITER la (j + 1)) :: (it, LITER pa (i + 1)) :: (na, LIST nv) :: (le, LIST lv) :: (L, NS m') :: (L + 1, CELL (some (.ref na))) :: W) s' → ps[i].2[j] ∈ (b0 :: ls') ∨ ps[i].2[j] ∈ ns → m' (Str.ofString "pairs") = some (.ref pa) → m' (Str.ofString "lefts") = some (.ref le) → m' (Str.ofString "begin") = some (.str b0 t0) →
            QT .next s' :=
          fun m' s' H' hin a1 a2 a3 => ⟨_, _, H', _, rfl, rfl, m', nv, ns, rfl, a1, a2, a3, hns, by omega, hnin, fun jj h h0 => by
            rcases Nat.lt_or_ge jj j with h1 | h1
            · exact hnj jj h h1
            · obtain rfl : jj = j := by omega
              exact hin⟩
        repeat walk_at "w"
        refine if_bool (fun hmem => ?_) (fun hmem => ?_)
        · repeat walk_at "w"
          exact fin _ _ (by assumption) (.inl (any_mem.mp hmem)) (by walk_at "lk") (by walk_at "lk") (by walk_at "lk")
        · repeat walk_at "w"
          refine if_bool (fun hmem2 => ?_) (fun hmem2 => ?_)
          · repeat walk_at "w"
            exact fin _ _ (by assumption) (.inr (any_mem.mp hmem2)) (by walk_at "lk") (by walk_at "lk") (by walk_at "lk")
          · repeat walk_at "w"
            rename St _ _ _ _ => H9
            exact ⟨_, _, H9, _, rfl, rfl, _, _, ns ++ [ps[i].2[j]], rfl, by walk_at "lk", by walk_at "lk", by walk_at "lk", strs_snoc hns _ _, by simp only [List.length_append, List.length_singleton]; omega,
              (fun j h h0 x hx => (hnin j h h0 x hx).imp id fun q => List.mem_append_left _ q), fun jj h h0 => by
              rcases Nat.lt_or_ge jj j with h1 | h1
              · exact (hnj jj h h1).imp id fun q => List.mem_append_left _ q
              · obtain rfl : jj = j := by omega
                exact .inr (List.mem_append_right _ (by simp))⟩
      · rintro Z₃ W₃ s₃ ⟨rfl, m, nv, ns, rfl, m1, m2, m3, hns, hnl, hnin, hnj⟩ H'
        clear H5
        repeat walk_at "w"
        rename St _ _ _ _ => H9
        exact ⟨_, _, H9, _, rfl, rfl, m, nv, ns, rfl, m1, m2, m3, hns, by omega, fun j h h0 x hx => by
          rcases Nat.lt_or_ge j i with h1 | h1
          · exact hnin j h h1 x hx
          · obtain rfl : j = i := by omega
            obtain ⟨jj, hjj, rfl⟩ := List.getElem_of_mem hx
            exact hnj jj hjj (by omega)⟩
    · rintro Z'' W'' s'' ⟨rfl, m, nv, ns, rfl, m1, m2, m3, hns, hnl, hnin⟩ H'
      clear H5
      have hsl := psum_le (ps := ps) xs.length
      have hparts := ok.parts
      have hnv := hns.len_eq
      repeat walk_at "w"
      rename_i an _ _ _ sx H5
      have key : ∃ AN NV m0 t, St c Z'' ((an, LIST NV) :: (le, LIST lv) :: (L, NS m0) :: (L + 1, CELL (some (.ref an))) :: W) sx ∧ StrsAre NV AN ∧ AN.length ≤ 40 ∧ ns.length + 2 ≤ AN.length ∧ b0 ∈ AN ∧ (∀ j (h : j < ps.length), ps[j].1 ∈ AN ∧ ∀ x ∈ ps[j].2, x ∈ AN) ∧
          m0 (Str.ofString "pairs") = some (.ref pa) ∧ m0 (Str.ofString "begin") = some (.str b0 t0) ∧ m0 (Str.ofString "count") = some (.int (ns.length : Nat) t) := by
        rw [hnv] at H5
        refine ⟨ns ++ [Str.ofString "$accept"] ++ (b0 :: ls'), _, _, _, St.sub H5 (.cons_cons _ (.cons _ (.cons _ (.cons _ (.refl _))))), strs_app (strs_app hns (.cons _ _ .nil)) hls, ?_, by simp only [List.length_append, List.length_cons, List.length_nil]; omega, by simp, fun j h => ⟨List.mem_append_right _ (hin j h (by omega)), fun x hx => ?_⟩, by walk_at "lk", by walk_at "lk", by walk_at "lk"⟩
        · simp only [List.length_append, List.length_cons, List.length_nil]; omega
        · rcases hnin j h (by omega) x hx with q | q
          · exact List.mem_append_right _ q
          · exact List.mem_append_left _ (List.mem_append_left _ q)
      clear H5
      obtain ⟨AN, NV, m0, tcount, H5, hAN, hANl, hcn, hb0, hall, n1, n2, n3⟩ := key
      have hNV := hAN.len_eq
      have hb0l : AN.idxOf b0 < AN.length := List.idxOf_lt_length_iff.mpr hb0
      clear m1 m2 m3
      repeat walk_at "w"
      rename St _ _ _ _ => H5
      refine rule_make H5 (by walk_at "am") fun x dx mr s6 H6 q1 q2 q3 => ?_
      obtain ⟨Z1, hz1, hR1, H7⟩ := freeze_rule (i := 0) (r := [((AN.idxOf b0 : Nat) : Int), 0]) H6 q1 q2 q3 (.cons _ _ (.cons _ _ .nil))
      clear H5 H6
      repeat walk_at "w"
      rename_i ra _ _ H5
      refine fg_list (xs := xs) (fun i Z₃ W₃ => (∀ p ∈ Z'', p ∈ Z₃) ∧ ∃ m rv RS tc', A11 (W₃ = (ra, LIST rv) :: (an, LIST NV) :: (le, LIST lv) :: (L, NS m) :: (L + 1, CELL (some (.ref an))) :: W) (m (Str.ofString "begin") = some (.str b0 t0)) (m (Str.ofString "count") = some (.int (ns.length : Nat) tc')) (m (Str.ofString "rules") = some (.ref ra)) (rv.length = i + 1) (RS.length = i + 1) (RULES Z₃ rv RS) ((∀ r ∈ RS, (0 ≤ r.1 ∧ r.1 < AN.length) ∧ ∀ x ∈ r.2, 0 ≤ x ∧ x < AN.length)) ((right RS 0).length = 2) ((∀ j (h : j < ps.length), j < i → (right RS (1 + j)).length = ps[j].2.length)) (nit RS = 3 + psum ps i + i)) H5 hh
        ⟨hz1, _, [.ref x], [((nv.length : Int), [((AN.idxOf b0 : Nat) : Int), 0])], _, rfl, by walk_at "lk", by walk_at "lk", by walk_at "lk", rfl, rfl, ?_, ?_, rfl, (fun j h h0 => absurd h0 (Nat.not_lt_zero _)), rfl⟩ ?_ (.inr ⟨⟨_, _, _, rfl⟩, hpair⟩) ?_ ?_
      · intro k hk
        obtain rfl : k = 0 := by simp at hk; omega
        exact ⟨x, dx, _, mr, _, _, _, rfl, hR1⟩
      · intro r hr
        rw [List.mem_singleton.mp hr]
        refine ⟨⟨Int.natCast_nonneg _, show (nv.length : Int) < AN.length by omega⟩, fun y hy => ?_⟩
        simp at hy
        omega
      · rintro i Z₃ W₃ hi ⟨hz, -⟩
        exact .inr (hp.mono hz)
      · clear H5
        rintro it i v Z₃ W₃ s₃ QT hi hv ⟨hz, m, rv, RS, tc', rfl, m1, m2, m3, hrv, hRS, hRU, hRI, hR0, hRL, hnit⟩ H'
        have hi' : i < ps.length := by rw [← hps.1]; exact hi
        obtain ⟨p, la, t, vs, e, z1, z2, z3⟩ := hps.2 i hi'
        obtain rfl : v = .ref p := Option.some.inj (hv.symm.trans e)
        have hvl := z3.len_eq
        have hsum := psum_succ hi'
        have hsl2 := psum_le (ps := ps) (i + 1)
        have z2' := z2.mono hz
        have hleft := (hall i hi').1
        refine r_unpack2 H' hh (.inr (z1.mono hz)) fun s' H' => ?_
        repeat walk_at "w"
        rename St _ _ _ _ => H5
        refine cg_list (xs := vs) (fun j ys Z₄ W₄ => Z₄ = Z₃ ∧ ∃ m' q, A8 (W₄ = (it, LITER pa (i + 1)) :: (ra, LIST rv) :: (an, LIST NV) :: (le, LIST lv) :: (L, NS m') :: (L + 1, CELL (some (.ref an))) :: W) (m' (Str.ofString "begin") = some (.str b0 t0)) (m' (Str.ofString "count") = some (.int (ns.length : Nat) tc')) (m' (Str.ofString "rules") = some (.ref ra)) (m' (Str.ofString "left") = some (.str ps[i].1 t)) (q.length = j) (IntsAre ys (nats q)) (∀ x ∈ q, x < AN.length)) H5 hh ⟨rfl, _, [], rfl, by walk_at "lk", by walk_at "lk", by walk_at "lk", by walk_at "lk", rfl, .nil, fun _ h => nomatch h⟩ (by omega) ?_ ?_ ?_ ?_ (by decide) rfl
        · rintro j ys Z₄ W₄ hj ⟨rfl, -⟩
          exact .inr z2'
        · exact .inl fun _ _ => rfl
        · rintro it2 C D j v ys mc Z₄ W₄ s₄ QT hj hy hv ⟨rfl, m', q, rfl, k1, k2, k3, k4, hq, hqi, hqn⟩ H'
          clear H5
          have hj' : j < ps[i].2.length := by omega
          obtain ⟨u, e2⟩ := strs_at z3 (List.getElem?_eq_getElem hj')
          obtain rfl : v = .str ps[i].2[j] u := Option.some.inj (hv.symm.trans e2)
          have hxin := (hall i hi').2 _ (List.getElem_mem hj')
          have hxl := List.idxOf_lt_length_iff.mpr hxin
          iterate 2 walk_at "w"
          refine compElt_nil ?_
          repeat walk_at "w"
          rename St _ _ _ _ => H9
          exact ⟨_, _, _, H9, rfl, m', q ++ [AN.idxOf ps[i].2[j]], rfl, k1, k2, k3, k4, by simp [hq], by unfold nats; rw [List.map_append]; exact IntsAre.snoc hqi _ _, fun y hy => by
            rcases List.mem_append.mp hy with hy | hy
            · exact hqn y hy
            · rw [List.mem_singleton.mp hy]; exact hxl⟩
        · rintro C D ys mc Z₄ W₄ s₄ GG ⟨rfl, m', q, rfl, k1, k2, k3, k4, hq, hqi, hqn⟩ H'
          clear H5
          refine ⟨_, _, _, _, rfl, St.sub H' (.cons_cons _ (.refl _)), fun s₃ H₃ => ?_⟩
          have hys := nats_len hqi
          clear H'
          repeat walk_at "w"
          rename St _ _ _ _ => H5
          refine last_spec H5 (by walk_at "am") (by walk_at "at") hqi fun li lt s6 H6 => ?_
          clear H5
          repeat walk_at "w"
          rename St _ _ _ _ => H5
          refine rule_make H5 (by walk_at "am") fun x dx mr s7 H7 q1 q2 q3 => ?_
          obtain ⟨Z2, hz2, hR2, H8⟩ := freeze_rule (i := rv.length) (r := nats q) H7 q1 q2 q3 hqi
          clear H5 H7
          repeat walk_at "w"
          rename St _ _ _ _ => H9
          refine ⟨_, _, St.sub H9 (.cons _ (.refl _)), _, rfl, fun p hp => hz2 _ (hz p hp), _, rv ++ [.ref x], RS ++ [(((AN.idxOf ps[i].1 : Nat) : Int), nats q)], tc', rfl, by walk_at "lk", by walk_at "lk", by walk_at "lk", by simp [hrv], by simp [hRS], RULES.snoc hRU (by omega) hz2 (by rw [hRS, ← hrv]; exact hR2), ?_, ?_, ?_, ?_⟩
          · intro r hr
            rcases List.mem_append.mp hr with hr | hr
            · exact hRI r hr
            · rw [List.mem_singleton.mp hr]
              have := List.idxOf_lt_length_iff.mpr hleft
              refine ⟨⟨Int.natCast_nonneg _, show ((AN.idxOf ps[i].1 : Nat) : Int) < AN.length by omega⟩, fun y hy => ?_⟩
              obtain ⟨z, hz, rfl⟩ := List.mem_map.mp hy
              have := hqn z hz
              exact ⟨Int.natCast_nonneg _, by show (z : Int) < _; omega⟩
          · unfold right at *
            rw [List.getD_eq_getElem?_getD, List.getElem?_append_left (by omega), ← List.getD_eq_getElem?_getD]
            exact hR0
          · intro j h h0
            unfold right at *
            rcases Nat.lt_or_ge j i with h1 | h1
            · rw [List.getD_eq_getElem?_getD, List.getElem?_append_left (by omega), ← List.getD_eq_getElem?_getD]
              exact hRL j h h1
            · obtain rfl : j = i := by omega
              rw [List.getD_eq_getElem?_getD, List.getElem?_append_right (by omega), hRS, show 1 + j - (j + 1) = 0 by omega]
              simp [nats]
              omega
          · rw [nit_snoc, hnit, hsum]
            simp [nats]
            omega
      · rintro Z₃ W₃ s₃ ⟨hz, m, rv, RS, tc', rfl, m1, m2, m3, hrv, hRS, hRU, hRI, hR0, hRL, hnit⟩ H'
        clear H5
        have hw : Well RS AN.length ns.length := ⟨fun r hr => (hRI r hr).1, fun r hr => (hRI r hr).2, by omega, by rw [hnit]; omega, hANl, by omega⟩
        repeat walk_at "w"
        rename St _ _ _ _ => H5
        refine grammar_make (R := RS) (n := AN.length) (nv := NV) (rv := rv) H5 (by walk_at "am") (by walk_at "at") hNV (by walk_at "at") (by omega) hRU hw fun x dx mg ba oa wa us ov wv s5 H6 u1 u2 u3 u4 f1 f2 f3 f4 f5 f6 f7 f8 f9 f10 f11 f12 f13 => ?_
        clear H5
        obtain ⟨o1, p1, -, H7⟩ := H6.freeze
        obtain ⟨o2, p2, -, H8⟩ := H7.freeze
        obtain ⟨o3, p3, -, H9⟩ := H8.freeze
        obtain ⟨o4, p4, -, H10⟩ := H9.freeze
        obtain ⟨o5, p5, -, H11⟩ := H10.freeze
        obtain ⟨Z5, hz5, hfam, H12⟩ := freeze_fam H11
        obtain ⟨o6, p6, -, H13⟩ := H12.tail.freeze
        obtain ⟨o7, p7, -, H14⟩ := H13.freeze
        have hzz : ∀ p ∈ Z₃, p ∈ ((an, o7) :: (ra, o6) :: Z5) := fun p hp => .tail _ (.tail _ (hz5 _ (.tail _ (.tail _ (.tail _ (.tail _ (.tail _ hp)))))))
        obtain ⟨es5, nn5, e5, g5, g6, g7⟩ := p5
        refine k x RS AN.length ns.length _ _ (fun p hp => hzz _ (hz _ hp)) ⟨dx, an, ra, ba, oa, wa, mg, NV, rv, us.map (fun p => Value.ref p.1), ov, wv, tc', ?_⟩ (by omega) (fun i h => hRL i h (by omega)) (St.sub H14 (.cons _ (.cons _ (.cons _ (.refl _)))))
        refine ⟨⟨o4, .tail _ (.tail _ (hz5 _ (.tail _ (.head _)))), p4⟩, ⟨o5, .tail _ (.tail _ (hz5 _ (.head _))), es5, nn5, e5, Nat.le_trans g5 (by decide), g6, g7⟩, f1, f2, f3, f4, f5, f6, f7, f8, f9, f10, f11, f12, f13,
          ⟨o7, .head _, p7⟩, hNV, ⟨o6, .tail _ (.head _), p6⟩, by omega, fun i h => ?_, ⟨o3, .tail _ (.tail _ (hz5 _ (.tail _ (.tail _ (.head _))))), p3⟩, by simp [u1], fun s' hs' => ?_,
          ⟨o2, .tail _ (.tail _ (hz5 _ (.tail _ (.tail _ (.tail _ (.head _)))))), p2⟩, u3, ⟨o1, .tail _ (.tail _ (hz5 _ (.tail _ (.tail _ (.tail _ (.tail _ (.head _))))))), p1⟩, u4, hw⟩
        · obtain ⟨a, dx', ta, m', t', u', xs', e, g⟩ := hRU i h
          exact ⟨a, dx', ta, m', t', u', xs', e, g.mono hzz⟩
        · obtain ⟨a, xs', e, g⟩ := u2 s' hs'
          exact ⟨a, xs', by rw [List.getElem?_map, e]; rfl, (hfam _ (List.mem_of_getElem? e)).mono fun p hp => .tail _ (.tail _ hp), g⟩
end
set_option maxRecDepth 100000
set_option maxHeartbeats 1000000
theorem PAIRS.nil {Z : List (Addr × Obj)} : PAIRS Z [] [] := ⟨rfl, fun i h => absurd h (Nat.not_lt_zero _)⟩
theorem PAIRS.mono {Z Z' : List (Addr × Obj)} {xs : List Value} {ps : List (Str × List Str)} (h : PAIRS Z xs ps) (hz : ∀ p ∈ Z, p ∈ Z') : PAIRS Z' xs ps :=
  ⟨h.1, fun i hi => let ⟨p, la, t, vs, a, b, d, e⟩ := h.2 i hi; ⟨p, la, t, vs, a, b.mono hz, d.mono hz, e⟩⟩
theorem PAIRS.snoc {Z : List (Addr × Obj)} {xs : List Value} {ps : List (Str × List Str)} (h : PAIRS Z xs ps) {p la : Addr} {t : Tok} {vs : List Value} {x : Str} {r : List Str} (z1 : Zs Z p (TUP [.str x t, .ref la])) (z2 : Zs Z la (LIST vs)) (hs : StrsAre vs r) : PAIRS Z (xs ++ [.ref p]) (ps ++ [(x, r)]) := by
  refine ⟨by simp [h.1], fun i hi => ?_⟩
  rcases Nat.lt_or_ge i ps.length with h1 | h1
  · obtain ⟨p', la', t', vs', a, b, d, e⟩ := h.2 i h1
    refine ⟨p', la', t', vs', by rw [List.getElem?_append_left (by rw [h.1]; exact h1)]; exact a, ?_, d, ?_⟩
    · rw [List.getElem_append_left h1]; exact b
    · rw [List.getElem_append_left h1]; exact e
  · obtain rfl : i = ps.length := by simp at hi; omega
    refine ⟨p, la, t, vs, by rw [← h.1, List.getElem?_append_right (Nat.le_refl _)]; simp, ?_, z2, ?_⟩
    · simpa using z1
    · simpa using hs
theorem freeze_pair {c : Fix} {Z : List (Addr × Obj)} {W : List (Addr × (Obj → Prop))} {s : Shared} {T D : Addr} {x : Str} {t : Tok} {ys xs : List Value} {ps : List (Str × List Str)} {q : List Str} (H : St c Z ((T, TUP [.str x t, .ref D]) :: (D, LIST ys) :: W) s) (hp : PAIRS Z xs ps) (hq : StrsAre ys q) :
    ∃ Z', (∀ p ∈ Z, p ∈ Z') ∧ PAIRS Z' (xs ++ [.ref T]) (ps ++ [(x, q)]) ∧ St c Z' W s := by
  obtain ⟨o1, q1, -, G1⟩ := H.freeze
  obtain ⟨o2, q2, -, G2⟩ := G1.freeze
  exact ⟨_, fun p hp => .tail _ (.tail _ hp), (hp.mono fun p hp => .tail _ (.tail _ hp)).snoc ⟨o1, .tail _ (.head _), q1⟩ ⟨o2, .head _, q2⟩ hq, G2⟩
section
variable {c : Fix} {Z Z0 : List (Addr × Obj)} {W W' : List (Addr × (Obj → Prop))} {s : Shared} {A : Around} {E : Value → Shared → Prop} {Q : Value → Shared → Prop}
theorem pairs_spec {p : Addr} {b : Nat} (H : St c Z ((p, POOL Z0 b) :: W) s) (hA : Am A 6) (hz : ∀ q ∈ Z0, q ∈ Z) (hb : b ≤ 1000)
    (k : ∀ a Z' xs ps s', (∀ p ∈ Z, p ∈ Z') → PAIRS Z' xs ps → PsOk ps → St c Z' ((a, LIST xs) :: (p, POOL Z0 (b + 100)) :: W) s' → Q (.ref a) s') :
    wpAny (model PG c.w) A (call (.ref 229) [.ref p]) Q E s := by
  have hh : A.handled = none := hA.hh
  refine' wpAny_call (enterC (binds := [(Str.ofString "pool", .ref p)]) H hA ?ho ?hcd ?hb ?hloc ?hcell ?h1 ?h2 ?h3 ?h4)
  case ho => k_is
  case hcd => k_is
  case hb => exact BindsTo.of_eq rfl
  case hloc => exact rfl
  case hcell => decide
  case h1 => exact rfl
  case h2 => exact rfl
  case h3 => exact rfl
  intro L s₁ H₁
  clear H
  have H : St c Z ((L, NS (fun _ => none)) :: (L + 1, CELL (some (.ref p))) :: (p, POOL Z0 b) :: W) s₁ := H₁
  clear H₁
  repeat walk_at "w"
  rename_i pl _ _ ts _ tA _ tb _ ta _ H5
  refine fg_tup (xs := [.str (Str.ofString "s") ts, .str (Str.ofString "a") tA, .str (Str.ofString "b") tb]) (fun i Z' W' => (∀ q ∈ Z, q ∈ Z') ∧ ∃ m b' xs ps, A8 (W' = (ta, TUP [.str (Str.ofString "s") ts, .str (Str.ofString "a") tA, .str (Str.ofString "b") tb]) :: (pl, LIST xs) :: (L, NS m) :: (L + 1, CELL (some (.ref p))) :: (p, POOL Z0 b') :: W) (m (Str.ofString "pairs") = some (.ref pl)) (PAIRS Z' xs ps) (b' ≤ b + 20 * i) (ps.length ≤ 3 * i) ((∀ q ∈ ps, ONE q.1)) ((ps.map fun p => p.2.length).sum ≤ 7 * i) ((0 < i → ps ≠ []))) H5 hh
    ⟨fun _ h => h, _, b, [], [], rfl, by walk_at "lk", PAIRS.nil, Nat.le_refl _, Nat.le_refl _, (fun _ h => nomatch h), Nat.le_refl _, fun h => absurd h (Nat.lt_irrefl _)⟩ ?_ (.inl fun _ _ => rfl) ?_ ?_
  · rintro i Z' W' hi ⟨hz', m, b', xs, ps, rfl, -⟩
    exact At.head
  · clear H5
    rintro it i v Z' W' s' QT hi hv ⟨hz', m, b', xs, ps, rfl, m1, hps, hb', hpl, hone, hsum, hne⟩ H'
    obtain ⟨x, tx, rfl, hx⟩ : ∃ x t, v = .str x t ∧ ONE x := by
      match i, hv with
      | 0, hv => simp at hv; exact ⟨_, _, hv.symm, .inl rfl⟩
      | 1, hv => simp at hv; exact ⟨_, _, hv.symm, .inr (.inl rfl)⟩
      | 2, hv => simp at hv; exact ⟨_, _, hv.symm, .inr (.inr rfl)⟩
    have hi3 : i < 3 := hi
    have hz0 : ∀ q ∈ Z0, q ∈ Z' := fun q hq => hz' q (hz q hq)
    repeat walk_at "w"
    rename St _ _ _ _ => H5
    refine pool_draw H5 (by walk_at "am") hz0 (by walk_at "rep") (by decide) (by decide) (by omega) fun d td s2 hd H6 => ?_
    clear H5
    repeat walk_at "w"
    rename St _ _ _ _ => H5
    refine cg_range (n := d) (fun j ys Z₂ W₂ => Z₂ = Z' ∧ ∃ m' b2 q, A6 (W₂ = (it, TITER ta (i + 1)) :: (ta, TUP [.str (Str.ofString "s") ts, .str (Str.ofString "a") tA, .str (Str.ofString "b") tb]) :: (pl, LIST xs) :: (L, NS m') :: (L + 1, CELL (some (.ref p))) :: (p, POOL Z0 b2) :: W) (m' (Str.ofString "pairs") = some (.ref pl)) (m' (Str.ofString "left") = some (.str x tx)) (StrsAre ys q) (q.length = j) (b2 ≤ b' + 1 + j)) H5 hh (by omega) ⟨rfl, _, _, [], rfl, by walk_at "lk", by walk_at "lk", .nil, rfl, Nat.le_refl _⟩ ?_ ?_ ?_ (by decide) rfl
    · exact .inl fun _ _ => rfl
    · rintro it2 C D j v ys mc Z₂ W₂ s₂ QT hj hy ⟨tv, rfl⟩ ⟨rfl, m', b2, q, rfl, k1, k2, hq, hql, hb2⟩ H'
      clear H5
      iterate 2 walk_at "w"
      refine compElt_nil ?_
      repeat walk_at "w"
      rename St _ _ _ _ => H5
      refine pool_draw H5 (by walk_at "am") hz0 (by walk_at "rep") (by decide) (by decide) (by omega) fun d2 td2 s2 hd2 H6 => ?_
      clear H5
      repeat walk_at "w"
      rename St _ _ _ _ => H5
      refine t_strs (ys := [Str.ofString "x", Str.ofString "y", Str.ofString "z"]) (H5.get (.head _)) (.cons _ _ (.cons _ _ (.cons _ _ .nil))) (by show d2 < 3; omega) (by decide) fun y u => ?_
      exact ⟨_, _, _, H5.tail, rfl, m', b2 + 1, q ++ [y], rfl, k1, k2, strs_snoc hq _ _, by simp [hql], by omega⟩
    · rintro C D ys mc Z₂ W₂ s₂ GG ⟨rfl, m', b2, q, rfl, k1, k2, hq, hql, hb2⟩ H'
      clear H5
      refine ⟨_, _, _, _, rfl, H', fun s₃ H₃ => ?_⟩
      clear H'
      have hxl := hps.1
      repeat walk_at "w"
      rename St _ _ _ _ => H5
      refine pool_draw H5 (by walk_at "am") hz0 (by walk_at "rep") (by decide) (by decide) (by omega) fun d2 td2 s4 hd2 H6 => ?_
      clear H5
      repeat walk_at "w"
      rename_i rg _ H5
      obtain ⟨ZZ, hzq, hps1, G2⟩ := freeze_pair H5.rot3.rot3 hps hq
      rw [show (1 : Int) + (d2 : Int) = ((1 + d2 : Nat) : Int) by omega] at G2
      clear H5
      refine fg_range (n := 1 + d2) (fun j Z₃ W₃ => (∀ q ∈ ZZ, q ∈ Z₃) ∧ ∃ m b3 xs3 ps3, A9 (W₃ = (it, TITER ta (i + 1)) :: (ta, TUP [.str (Str.ofString "s") ts, .str (Str.ofString "a") tA, .str (Str.ofString "b") tb]) :: (pl, LIST xs3) :: (L, NS m) :: (L + 1, CELL (some (.ref p))) :: (p, POOL Z0 b3) :: W) (m (Str.ofString "pairs") = some (.ref pl)) (m (Str.ofString "left") = some (.str x tx)) (PAIRS Z₃ xs3 ps3) (b3 ≤ b' + 3 + 4 * j) (ps3.length ≤ 3 * i + 1 + j) ((∀ q ∈ ps3, ONE q.1)) ((ps3.map fun p => p.2.length).sum ≤ 7 * i + 1 + 3 * j) (ps3 ≠ [])) G2 hh (by omega)
        ⟨fun _ h => h, m', b2 + 1, _, ps ++ [(x, q)], rfl, k1, k2, hps1, by omega, by simp only [List.length_append, List.length_singleton]; omega, (fun y hy => by
          rcases List.mem_append.mp hy with hy | hy
          · exact hone y hy
          · rw [List.mem_singleton.mp hy]; exact hx), by simp only [List.map_append, List.sum_append, List.map_cons, List.map_nil, List.sum_cons, List.sum_nil]; omega, by simp⟩ (.inl fun _ _ => rfl) ?_ ?_
      · clear G2
        rintro it3 j v Z₃ W₃ s₃ QT hj ⟨tv, rfl⟩ ⟨hzz, m, b3, xs3, ps3, rfl, k1, k2, hp3, hb3, hl3, ho3, hs3, hn3⟩ H'
        have hz3 : ∀ q ∈ Z0, q ∈ Z₃ := fun q hq => hzz _ (hzq _ (hz0 q hq))
        repeat walk_at "w"
        rename St _ _ _ _ => H5
        refine pool_draw H5 (by walk_at "am") hz3 (by walk_at "rep") (by decide) (by decide) (by omega) fun d3 td3 s5 hd3 H6 => ?_
        clear H5
        repeat walk_at "w"
        rename St _ _ _ _ => H5
        rw [show (1 : Int) + (d3 : Int) = ((1 + d3 : Nat) : Int) by omega] at H5
        refine cg_range (n := 1 + d3) (fun j2 ys Z₄ W₄ => Z₄ = Z₃ ∧ ∃ m' b4 q, A6 (W₄ = (it3, RITER 0 (1 + d2 : Nat) (j + 1)) :: (it, TITER ta (i + 1)) :: (ta, TUP [.str (Str.ofString "s") ts, .str (Str.ofString "a") tA, .str (Str.ofString "b") tb]) :: (pl, LIST xs3) :: (L, NS m') :: (L + 1, CELL (some (.ref p))) :: (p, POOL Z0 b4) :: W) (m' (Str.ofString "pairs") = some (.ref pl)) (m' (Str.ofString "left") = some (.str x tx)) (StrsAre ys q) (q.length = j2) (b4 ≤ b3 + 1 + j2)) H5 hh (by omega) ⟨rfl, _, _, [], rfl, by walk_at "lk", by walk_at "lk", .nil, rfl, Nat.le_refl _⟩ ?_ ?_ ?_ (by decide) rfl
        · exact .inl fun _ _ => rfl
        · rintro it4 C D j2 v ys mc Z₄ W₄ s₄ QT hj2 hy ⟨tv, rfl⟩ ⟨rfl, m', b4, q, rfl, k1, k2, hq, hql, hb4⟩ H'
          clear H5
          iterate 2 walk_at "w"
          refine compElt_nil ?_
          repeat walk_at "w"
          rename St _ _ _ _ => H5
          refine pool_draw H5 (by walk_at "am") hz3 (by walk_at "rep") (by decide) (by decide) (by omega) fun d4 td4 s6 hd4 H6 => ?_
          clear H5
          repeat walk_at "w"
          rename St _ _ _ _ => H5
          refine t_strs (ys := [Str.ofString "x", Str.ofString "y", Str.ofString "s", Str.ofString "a", Str.ofString "b", Str.ofString "a", Str.ofString "b"]) (H5.get (.head _)) (.cons _ _ (.cons _ _ (.cons _ _ (.cons _ _ (.cons _ _ (.cons _ _ (.cons _ _ .nil))))))) (by show d4 < 7; omega) (by decide) fun y u => ?_
          exact ⟨_, _, _, H5.tail, rfl, m', b4 + 1, q ++ [y], rfl, k1, k2, strs_snoc hq _ _, by simp [hql], by omega⟩
        · rintro C D ys mc Z₄ W₄ s₄ GG ⟨rfl, m', b4, q, rfl, k1, k2, hq, hql, hb4⟩ H'
          clear H5
          refine ⟨_, _, _, _, rfl, H', fun s₃ H₃ => ?_⟩
          clear H'
          have hxl := hp3.1
          repeat walk_at "w"
          rename St _ _ _ _ => H5
          obtain ⟨Z9, hz9, hp9, G4⟩ := freeze_pair H5 hp3 hq
          exact ⟨_, _, G4, _, rfl, fun q hq => hz9 _ (hzz q hq), m', b4, _, ps3 ++ [(x, q)], rfl, k1, k2, hp9, by omega, by simp only [List.length_append, List.length_singleton]; omega, (fun y hy => by
            rcases List.mem_append.mp hy with hy | hy
            · exact ho3 y hy
            · rw [List.mem_singleton.mp hy]; exact hx), by simp only [List.map_append, List.sum_append, List.map_cons, List.map_nil, List.sum_cons, List.sum_nil]; omega, by simp⟩
      · rintro Z₃ W₃ s₃ ⟨hzz, m, b3, xs3, ps3, rfl, k1, k2, hp3, hb3, hl3, ho3, hs3, hn3⟩ H'
        clear G2
        repeat walk_at "w"
        rename St _ _ _ _ => H9
        exact ⟨_, _, H9, _, rfl, fun q hq => hzz _ (hzq _ (hz' q hq)), m, b3, xs3, ps3, rfl, k1, hp3, by omega, by omega, ho3, by omega, fun _ => hn3⟩
  · rintro Z' W' s' ⟨hz', m, b', xs, ps, rfl, m1, hps, hb', hpl, hone, hsum, hne⟩ H'
    clear H5
    simp only [List.length_cons, List.length_nil] at hb' hpl hsum hne
    repeat walk_at "w"
    rename St _ _ _ _ => H9
    have H10 := St.weakR (W' := (pl, LIST xs) :: (p, POOL Z0 (b + 100)) :: W) (St.sub H9 (.cons _ (.cons_cons _ (.cons _ (.cons _ (.refl _)))))) (.tail .head) fun o h => h.mono (by omega)
    exact k _ Z' xs ps _ hz' hps ⟨hne (by decide), by omega, hone, by omega⟩ H10
end
set_option maxRecDepth 100000
set_option maxHeartbeats 1000000
theorem zz_key {kv : NM} {i : Nat} (h : i < kv.length) : ((zz kv).map (·.1))[i]? = some ((kv[i].1 : Nat) : Int) := by unfold zz; simp [h]
theorem nv_mem {kv : NM} (hn : (keys kv).Nodup) {i : Nat} (h : i < kv.length) : nv kv kv[i].1 = some kv[i].2 := by
  induction kv generalizing i with
  | nil => simp at h
  | cons p kv ih =>
    unfold keys at hn
    rw [List.map_cons, List.nodup_cons] at hn
    cases i with
    | zero => simp [nv]
    | succ i =>
      have h' : i < kv.length := by simpa using h
      have := ih hn.2 h'
      unfold nv at this ⊢
      have hne : ¬ p.1 = kv[i].1 := fun e => hn.1 (List.mem_map.mpr ⟨kv[i], List.getElem_mem h', e.symm⟩)
      simpa [hne] using this
theorem freeze_prs {c : Fix} {Z : List (Addr × Obj)} {W : List (Addr × (Obj → Prop))} {s : Shared} {T : Addr} {q : Int × Int} {t u : Tok} {xs : List Value} {kv : List (Int × Int)} (H : St c Z ((T, TUP [.int q.1 t, .int q.2 u]) :: W) s) (hp : PRS Z xs kv) :
    ∃ Z', (∀ p ∈ Z, p ∈ Z') ∧ PRS Z' (xs ++ [.ref T]) (kv ++ [q]) ∧ St c Z' W s := by
  obtain ⟨o1, q1, -, G1⟩ := H.freeze
  exact ⟨_, fun p hp => .tail _ hp, (hp.mono fun p hp => .tail _ hp).snoc ⟨o1, .head _, q1⟩, G1⟩
theorem zz_take_succ {kv : NM} {i : Nat} (h : i < kv.length) : (zz kv).take (i + 1) = (zz kv).take i ++ [(((kv[i].1 : Nat) : Int), ((kv[i].2 : Nat) : Int))] := by
  rw [List.take_add_one]
  congr 1
  unfold zz
  simp [h]
theorem getD_zz (kv : NM) (k : Nat) : (iv (zz kv) k).getD 0 = (((nv kv k).getD 0 : Nat) : Int) := by
  rw [iv_zz]
  cases nv kv k <;> rfl
theorem nst_len (kv : NM) (k m : Nat) : (nst kv k m).length ≤ kv.length + 1 := by
  unfold nst; split <;> simp
section
variable {c : Fix} {Z Z0 : List (Addr × Obj)} {W W' : List (Addr × (Obj → Prop))} {s : Shared} {A : Around} {E : Value → Shared → Prop} {Q : Value → Shared → Prop}
theorem joined_spec {oa ob : Addr} {kv1 kv2 : NM} (H : St c Z W s) (hA : Am A 6) (h1 : Zs Z oa (DI c.w (zz kv1))) (h2 : Zs Z ob (DI c.w (zz kv2))) (n1 : (keys kv1).Nodup) (n2 : (keys kv2).Nodup) (l1 : kv1.length ≤ 64) (l2 : kv2.length ≤ 64)
    (k : ∀ a Z' s', (∀ p ∈ Z, p ∈ Z') → St c Z' ((a, DI c.w (zz (joinN kv1 kv2))) :: W) s' → Q (.ref a) s') :
    wpAny (model PG c.w) A (call (.ref 241) [.ref oa, .ref ob]) Q E s := by
  have hh : A.handled = none := hA.hh
  have hzl : (zz kv1).length = kv1.length := by simp [zz]
  have hzl2 : (zz kv2).length = kv2.length := by simp [zz]
  refine' wpAny_call (enterC (binds := [(Str.ofString "one", .ref oa), (Str.ofString "other", .ref ob)]) H hA ?ho ?hcd ?hb ?hloc ?hcell ?h1 ?h2 ?h3 ?h4)
  case ho => k_is
  case hcd => k_is
  case hb => exact BindsTo.of_eq rfl
  case hloc => exact rfl
  case hcell => decide
  case h1 => exact rfl
  case h2 => exact rfl
  case h3 => exact rfl
  intro L s₁ H₁
  clear H
  have H : St c Z ((L, NS (up (fun _ => none) (Str.ofString "other") (.ref ob))) :: (L + 1, CELL (some (.ref oa))) :: W) s₁ := H₁
  clear H₁
  repeat walk_at "w"
  rename St _ _ _ _ => H5
  refine cg_keys (kv := zz kv1) (fun j ys Z₂ W₂ => A3 ((∀ p ∈ Z, p ∈ Z₂)) (W₂ = (L, NS (up (fun _ => none) (Str.ofString "other") (.ref ob))) :: (L + 1, CELL (some (.ref oa))) :: W) (PRS Z₂ ys ((zz kv1).take j))) H5 hh h1 (by omega) (fun i ys Z' W' hi hJ => hJ.1)
    ⟨fun _ h => h, rfl, PRS.nil⟩ ?_ ?_ ?_ (by decide) rfl
  · exact .inl fun _ _ => rfl
  · rintro S it C D i v ys mc Z₂ W₂ s₂ QT hi hy ⟨kk, tk, ek, rfl⟩ ⟨hz, rfl, hp⟩ H'
    clear H5
    have hi' : i < kv1.length := by omega
    rw [zz_key hi'] at ek
    obtain rfl := (Option.some.inj ek).symm
    have h1' := h1.mono hz
    have hiv : iv (zz kv1) ((kv1[i].1 : Nat) : Int) = some ((kv1[i].2 : Nat) : Int) := by rw [iv_zz, nv_mem n1 hi']; rfl
    iterate 2 walk_at "w"
    refine compElt_nil ?_
    repeat walk_at "w"
    rename St _ _ _ _ => H5
    obtain ⟨Z3, hz3, hp3, G⟩ := freeze_prs (q := (((kv1[i].1 : Nat) : Int), ((kv1[i].2 : Nat) : Int))) H5 hp
    exact ⟨Z3, _, _, G, fun p hp => hz3 _ (hz p hp), rfl, by rw [zz_take_succ hi']; exact hp3⟩
  · rintro C D ys mc Z₂ W₂ s₂ GG ⟨hz, rfl, hp⟩ H'
    clear H5
    rw [List.take_of_length_le (Nat.le_refl _)] at hp
    have hys := hp.1
    refine ⟨_, _, _, _, rfl, H', fun s₃ H₃ => ?_⟩
    clear H'
    repeat walk_at "w"
    rename St _ _ _ _ => H5
    refine r_dict_list H5 hh At.head hp (by omega) fun fd s4 H6 => ?_
    rw [dictOfPairs_zz n1] at H6
    clear H5
    repeat walk_at "w"
    rename St _ _ _ _ => H5
    refine fg_keys (kv := zz kv2) (fun i Z₃ W₃ => (∀ p ∈ Z₂, p ∈ Z₃) ∧ ∃ m acc, A5 (W₃ = (fd, DI c.w (zz acc)) :: (D, LIST ys) :: (L, NS m) :: (L + 1, CELL (some (.ref oa))) :: W) (acc = joinN kv1 (kv2.take i)) (acc.length ≤ 64 + i) (m (Str.ofString "found") = some (.ref fd)) (m (Str.ofString "other") = some (.ref ob))) H5 hh (h2.mono hz) (fun i Z' W' hi hJ => hJ.1)
      ⟨fun _ h => h, _, kv1, rfl, rfl, by omega, by walk_at "lk", by walk_at "lk"⟩ ?_ ?_ ?_
    · exact .inl fun _ _ => rfl
    · rintro S it i v Z₃ W₃ s₃ QT hi ⟨kk, tk, ek, rfl⟩ ⟨hz3, m, acc, rfl, hacc, hal, m1, m2⟩ H'
      clear H5
      have hi' : i < kv2.length := by omega
      rw [zz_key hi'] at ek
      obtain rfl := (Option.some.inj ek).symm
      have h2' : Zs Z₃ ob (DI c.w (zz kv2)) := h2.mono fun p hp => hz3 _ (hz p hp)
      have hiv : iv (zz kv2) ((kv2[i].1 : Nat) : Int) = some ((kv2[i].2 : Nat) : Int) := by rw [iv_zz, nv_mem n2 hi']; rfl
      have hal2 : (zz acc).length ≤ 200 := by simp [zz]; omega
      repeat walk_at "w"
      rename St _ _ _ _ => H9
      rw [getD_zz, bitOr_nat, ist_zz] at H9
      refine ⟨_, _, H9, _, rfl, hz3, _, _, rfl, ?_, ?_, by walk_at "lk", by walk_at "lk"⟩
      · unfold joinN at *
        rw [List.take_add_one, List.getElem?_eq_getElem hi', List.foldl_append, ← hacc]
        rfl
      · have := nst_len acc kv2[i].1 ((nv acc kv2[i].1).getD 0 ||| kv2[i].2)
        omega
    · rintro Z₃ W₃ s₃ ⟨hz3, m, acc, rfl, hacc, hal, m1, m2⟩ H'
      clear H5
      rw [hzl2, List.take_of_length_le (Nat.le_refl _)] at hacc
      subst hacc
      repeat walk_at "w"
      rename St _ _ _ _ => H9
      exact k _ _ _ (fun p hp => hz3 _ (hz p hp)) (St.sub H9 (.cons_cons _ (.cons _ (.cons _ (.cons _ (.refl _))))))
end
set_option maxRecDepth 100000
set_option maxHeartbeats 1000000
structure Sizes (R : Rls) (SZ : List Nat) : Prop where
  len : R.length = SZ.length + 1
  ne : SZ ≠ []
  le9 : SZ.length ≤ 9
  at_ : ∀ i (h : i < SZ.length), (right R (1 + i)).length = SZ[i]
section
variable {c : Fix} {Z Z0 : List (Addr × Obj)} {W W' : List (Addr × (Obj → Prop))} {s : Shared} {A : Around} {E : Value → Shared → Prop} {Q : Value → Shared → Prop} {ga : Addr} {R : Rls} {n tc : Nat}
theorem kernel_spec {p sa : Addr} {b : Nat} {sv : List Value} {SZ : List Nat} (H : St c Z ((p, POOL Z0 b) :: W) s) (hA : Am A 6) (hz : ∀ q ∈ Z0, q ∈ Z) (hb : b ≤ 1000) (hg : GRAM Z ga R n tc) (hs : Zs Z sa (LIST sv)) (hsv : IntsAre sv (nats SZ)) (hS : Sizes R SZ)
    (k : ∀ a kv s', Kern R kv → St c Z ((a, DI c.w (zz kv)) :: (p, POOL Z0 (b + 30)) :: W) s' → Q (.ref a) s') :
    wpAny (model PG c.w) A (call (.ref 236) [.ref p, .ref ga, .ref sa]) Q E s := by
  have hh : A.handled = none := hA.hh
  have hsl := nats_len hsv
  have h9 := hS.le9
  have hRl := hS.len
  have hS0 : 0 < SZ.length := List.length_pos_iff.mpr hS.ne
  obtain ⟨dga, gna, gra, gba, goa, gwa, mg, gnv, grv, gbv, gov, gwv, gtt, g⟩ := id hg
  obtain ⟨g1, g2, g3, g4, g5, g6, g7, g8, g9, g10, g11, g12, g13, g14, g15, g16, g17, g18, g19, g20, g21, g22, g23, g24, g25, g26, g27, g28⟩ := g
  have w1 := g28.rules
  have w2 := g28.items
  have w3 := g28.syms
  have w4 := g28.terms
  refine' wpAny_call (enter (binds := [(Str.ofString "pool", .ref p), (Str.ofString "grammar", .ref ga), (Str.ofString "sizes", .ref sa)]) H hA ?ho ?hcd ?hb ?hloc ?hcell ?h1 ?h2 ?h3 ?h4)
  walk_at "ent"
  intro L s₁ H₁
  rw [ms_lookup] at H₁
  simp only [List.reverse_cons, List.reverse_nil, List.nil_append, List.cons_append, ms] at H₁
  clear H
  repeat walk_at "w"
  rename_i fd _ _ _ _ _ _ H5
  refine pool_draw H5 (by walk_at "am") hz (by walk_at "rep") (by decide) (by decide) (by omega) fun d td s2 hd H6 => ?_
  clear H5
  repeat walk_at "w"
  rename St _ _ _ _ => H5
  rw [show (1 : Int) + (d : Int) = ((1 + d : Nat) : Int) by omega] at H5
  refine fg_range (n := 1 + d) (fun i Z' W' => Z' = Z ∧ ∃ m b' kv, A11 (W' = (fd, DI c.w (zz kv)) :: (L, NS m) :: (p, POOL Z0 b') :: W) (m (Str.ofString "pool") = some (.ref p)) (m (Str.ofString "grammar") = some (.ref ga)) (m (Str.ofString "sizes") = some (.ref sa)) (m (Str.ofString "found") = some (.ref fd)) (b' ≤ b + 1 + 5 * i) ((keys kv).Nodup) ((0 < i → kv ≠ [])) (kv.length ≤ i) ((∀ k ∈ keys kv, k < nit R)) ((∀ k m, nv kv k = some m → m < 32))) H5 hh (by omega)
    ⟨rfl, _, b + 1, [], rfl, by walk_at "lk", by walk_at "lk", by walk_at "lk", by walk_at "lk", by omega, List.nodup_nil, fun h => absurd h (Nat.lt_irrefl _), Nat.le_refl _, (fun _ h => nomatch h), fun k m h => by cases h⟩ ?_ ?_ ?_
  · exact .inl fun _ _ => rfl
  · clear H5
    rintro it i v Z' W' s' QT hi ⟨tv, rfl⟩ ⟨rfl, m, b', kv, rfl, m1, m2, m3, m4, hb', hnd, hne, hkl, hit, hmk⟩ H'
    repeat walk_at "w"
    rename St _ _ _ _ => H5
    refine pool_draw H5 (by walk_at "am") hz (by walk_at "rep") (by omega) (by omega) (by omega) fun d1 td1 s3 hd1 H6 => ?_
    clear H5
    have hd1' : d1 < SZ.length := by omega
    obtain ⟨tz, ez⟩ := nats_get hsv (List.getElem?_eq_getElem hd1')
    have hsz := hS.at_ d1 hd1'
    have hoff := offN_lt (R := R) (j := 1 + d1) (d := (right R (1 + d1)).length) (by omega) (Nat.le_refl _)
    repeat walk_at "w"
    rename St _ _ _ _ => H5
    refine pool_draw H5 (by walk_at "am") hz (by walk_at "rep") (by omega) (by omega) (by omega) fun d2 td2 s4 hd2 H6 => ?_
    clear H5
    repeat walk_at "w"
    rename St _ _ _ _ => H5
    refine pool_draw H5 (by walk_at "am") hz (by walk_at "rep") (by decide) (by decide) (by omega) fun d3 td3 s5 hd3 H6 => ?_
    clear H5
    repeat walk_at "w"
    rename St _ _ _ _ => H5
    refine pool_draw H5 (by walk_at "am") hz (by walk_at "rep") (by decide) (by decide) (by omega) fun d4 td4 s6 hd4 H6 => ?_
    clear H5
    repeat walk_at "w"
    rename St _ _ _ _ => H5
    rw [show (1 : Int) + (d1 : Int) = ((1 + d1 : Nat) : Int) by omega]
    refine item_spec H5 (by walk_at "am") hg (by omega) fun t5 s7 H7 => ?_
    clear H5
    have hkz : (zz kv).length ≤ 10 := by simp [zz]; omega
    repeat walk_at "w"
    rename St _ _ _ _ => H9
    have e1 : ((offN R (1 + d1) : Nat) : Int) + (d2 : Int) = ((offN R (1 + d1) + d2 : Nat) : Int) := by omega
    have e2 : (d3 : Int) * 4 + (d4 : Int) = ((d3 * 4 + d4 : Nat) : Int) := by omega
    rw [e1, e2, ist_zz] at H9
    have hit2 : offN R (1 + d1) + d2 < nit R := by omega
    refine ⟨_, _, H9, _, rfl, rfl, _, _, _, rfl, by walk_at "lk", by walk_at "lk", by walk_at "lk", by walk_at "lk", by omega, nodup_put hnd, fun _ e => ?_, ?_, fun x hx => ?_, fun x mm hx => ?_⟩
    · have : offN R (1 + d1) + d2 ∈ keys (nst kv (offN R (1 + d1) + d2) (d3 * 4 + d4)) := keys_put_mem.mpr (.inl rfl)
      rw [e] at this
      cases this
    · have := nst_len kv (offN R (1 + d1) + d2) (d3 * 4 + d4)
      omega
    · rcases keys_put_mem.mp hx with rfl | hx
      · exact hit2
      · exact hit x hx
    · rw [nv_put] at hx
      split at hx
      · cases hx; omega
      · exact hmk x mm hx
  · rintro Z' W' s' ⟨rfl, m, b', kv, rfl, m1, m2, m3, m4, hb', hnd, hne, hkl, hit, hmk⟩ H'
    clear H5
    repeat walk_at "w"
    rename St _ _ _ _ => H9
    have H10 := St.weakR (W' := (fd, DI c.w (zz kv)) :: (p, POOL Z0 (b + 30)) :: W) (St.sub H9 (.cons_cons _ (.cons _ (.refl _)))) (.tail .head) fun o h => h.mono (by omega)
    exact k _ kv _ ⟨hnd, hne (by omega), by omega, hit, hmk⟩ H10
end
set_option maxRecDepth 100000
set_option maxHeartbeats 1000000
section
variable {c : Fix} {Z Z0 : List (Addr × Obj)} {W W' : List (Addr × (Obj → Prop))} {s : Shared} {A : Around} {E : Value → Shared → Prop} {Q : Value → Shared → Prop} {ga : Addr} {R : Rls} {n tc : Nat}
theorem r_notin_ints {l : Addr} {xs : List Value} {ks : List Int} {i : Int} {t : Tok} (hl : ∃ o, s.heap.get? l = some o ∧ LIST xs o) (hi : IntsAre xs ks) (k : Q (.bool (!decide (i ∈ ks))) s) : wpAny (model PG c.w) A (compareOp .NotIn (.int i t) (.ref l)) Q E s := by
  refine PySem.SeqAt.notIn_listAt (isInt i) (list_of hl) (fun y hy => (eq_isInt i t hi y (by simpa using hy)).at _ _) ?_
  have e : xs.toArray.any (isInt i) = decide (i ∈ ks) := by
    rw [← Array.any_toList, show xs.toArray.toList = xs from rfl, any_isInt i hi]
    rw [Bool.eq_iff_iff, List.any_eq_true]
    simp
  rw [e]; exact k
theorem closed_spec {fa ka : Addr} {kv : NM} {ks : List Nat} {kvs : List Value} (H : St c Z W s) (hA : Am A 6) (hg : GRAM Z ga R n tc) (hf : Zs Z fa (DI c.w (zz kv))) (hk : At Z W ka (LIST kvs)) (hki : IntsAre kvs (nats ks))
    (hit : ∀ k ∈ keys kv, k < nit R) (hl : kv.length ≤ 64) (hlk : ks.length ≤ 64) (hadd : ∀ k ∈ keys kv, k ∉ ks → dot R k = 0 ∧ left R (rul R k) ∈ (keys kv).map (aft R)) (hpre : (keys kv).take ks.length = ks)
    (k : ∀ s', St c Z W s' → Q (.bool true) s') :
    wpAny (model PG c.w) A (call (.ref 246) [.ref ga, .ref ka, .ref fa]) Q E s := by
  have hh : A.handled = none := hA.hh
  have hzl : (zz kv).length = kv.length := by simp [zz]
  have hkl := nats_len hki
  obtain ⟨dga, gna, gra, gba, goa, gwa, mg, gnv, grv, gbv, gov, gwv, gtt, g⟩ := id hg
  obtain ⟨g1, g2, g3, g4, g5, g6, g7, g8, g9, g10, g11, g12, g13, g14, g15, g16, g17, g18, g19, g20, g21, g22, g23, g24, g25, g26, g27, g28⟩ := g
  have w1 := g28.rules
  have w2 := g28.items
  have w3 := g28.syms
  have w4 := g28.terms
  refine' wpAny_call (enterC (binds := [(Str.ofString "grammar", .ref ga), (Str.ofString "kernel", .ref ka), (Str.ofString "found", .ref fa)]) H hA ?ho ?hcd ?hb ?hloc ?hcell ?h1 ?h2 ?h3 ?h4)
  case ho => k_is
  case hcd => k_is
  case hb => exact BindsTo.of_eq rfl
  case hloc => exact rfl
  case hcell => decide
  case h1 => exact rfl
  case h2 => exact rfl
  case h3 => exact rfl
  intro L s₁ H₁
  clear H
  have H : St c Z ((L, NS (up (up (fun _ => none) (Str.ofString "kernel") (.ref ka)) (Str.ofString "found") (.ref fa))) :: (L + 1, CELL (some (.ref ga))) :: W) s₁ := H₁
  clear H₁
  repeat walk_at "w"
  rename St _ _ _ _ => H5
  refine cg_keys (kv := zz kv) (fun j ys Z₂ W₂ => A3 (Z₂ = Z) (W₂ = (L, NS (up (up (fun _ => none) (Str.ofString "kernel") (.ref ka)) (Str.ofString "found") (.ref fa))) :: (L + 1, CELL (some (.ref ga))) :: W) (IntsAre ys (((keys kv).take j).map (aft R)))) H5 hh hf (by omega) (fun i ys Z' W' hi hJ => by rw [hJ.1]; exact fun _ h => h)
    ⟨rfl, rfl, .nil⟩ ?_ ?_ ?_ (by decide) rfl
  · exact .inl fun _ _ => rfl
  · rintro S it C D i v ys mc Z₂ W₂ s₂ QT hi hy ⟨kk, tk, ek, rfl⟩ ⟨rfl, rfl, hp⟩ H'
    clear H5
    have hi' : i < kv.length := by omega
    rw [zz_key hi'] at ek
    obtain rfl := (Option.some.inj ek).symm
    have hkey : kv[i].1 ∈ keys kv := List.mem_map.mpr ⟨_, List.getElem_mem hi', rfl⟩
    have hlt := hit _ hkey
    iterate 2 walk_at "w"
    refine compElt_nil ?_
    repeat walk_at "w"
    rename St _ _ _ _ => H9
    refine ⟨_, _, _, H9, rfl, rfl, ?_⟩
    have e : (keys kv).take (i + 1) = (keys kv).take i ++ [kv[i].1] := by
      rw [List.take_add_one]; congr 1; unfold keys; simp [hi']
    rw [e, List.map_append]
    exact IntsAre.snoc hp _ _
  · rintro C D ys mc Z₂ W₂ s₂ GG ⟨rfl, rfl, hp⟩ H'
    clear H5
    refine ⟨_, _, _, _, _, H', .tail .head, fun s₃ H₃ => ?_⟩
    clear H'
    rw [List.take_of_length_le (by unfold keys; simp; omega)] at hp
    repeat walk_at "w"
    rename St _ _ _ _ => H5
    refine fg_keys (kv := zz kv) (fun i Z₃ W₃ => Z₃ = Z₂ ∧ ∃ m, A4 (W₃ = (D, LIST ys) :: (L, NS m) :: (L + 1, CELL (some (.ref ga))) :: W) (m (Str.ofString "kernel") = some (.ref ka)) (m (Str.ofString "found") = some (.ref fa)) (m (Str.ofString "wanted") = some (.ref D))) H5 hh hf (fun i Z' W' hi hJ => by rw [hJ.1]; exact fun _ h => h)
      ⟨rfl, _, rfl, by walk_at "lk", by walk_at "lk", by walk_at "lk"⟩ ?_ ?_ ?_
    · exact .inl fun _ _ => rfl
    · rintro S it i v Z₃ W₃ s₃ QT hi ⟨kk, tk, ek, rfl⟩ ⟨rfl, m, rfl, m1, m2, m3⟩ H'
      clear H5
      have hi' : i < kv.length := by omega
      rw [zz_key hi'] at ek
      obtain rfl := (Option.some.inj ek).symm
      have hkey : kv[i].1 ∈ keys kv := List.mem_map.mpr ⟨_, List.getElem_mem hi', rfl⟩
      have hlt := hit _ hkey
      obtain ⟨i1, i2, i3, i4⟩ := item_at hlt
      obtain ⟨rp, rdx, rta, rm, rt3, rt4, rxs, e3, r1, r2, r3, r4, r5, r6, r7⟩ := g20 _ i2
      have hleft := left_at i2
      have hadd' := hadd _ hkey
      repeat walk_at "w"
      rename St _ _ _ _ => H5
      refine r_notin_ints (H5.at (by walk_at "at")) hki ?_
      repeat walk_at "w"
      refine if_dec (fun hmem => ?_) (fun hmem => ?_)
      · repeat walk_at "w"
        exact ⟨_, _, by assumption, _, rfl, rfl, _, rfl, by walk_at "lk", by walk_at "lk", by walk_at "lk"⟩
      · obtain ⟨hd, hw⟩ := hadd' fun h => hmem (List.mem_map.mpr ⟨_, h, rfl⟩)
        rw [hleft] at hw
        repeat walk_at "w"
        refine if_bool (fun h => absurd h (by rw [hd]; simp)) (fun _ => ?_)
        repeat walk_at "w"
        rename St _ _ _ _ => H5
        refine r_notin_ints (H5.get (by walk_at "mem")) hp ?_
        repeat walk_at "w"
        refine if_dec (fun _ => ?_) (fun h => absurd hw h)
        repeat walk_at "w"
        exact ⟨_, _, by assumption, _, rfl, rfl, _, rfl, by walk_at "lk", by walk_at "lk", by walk_at "lk"⟩
    · rintro Z₃ W₃ s₃ ⟨rfl, m, rfl, m1, m2, m3⟩ H'
      clear H5
      repeat walk_at "w"
      rename St _ _ _ _ => H5
      refine r_list_dict H5 hh (H5.notmodZ hf) (H5.zs hf) (by omega) fun la vs s4 hvs H6 => ?_
      clear H5
      rw [keys_zz] at hvs
      have hvl := nats_len hvs
      have hkk : (keys kv).length = kv.length := by simp [keys]
      repeat walk_at "w"
      rename St _ _ _ _ => H5
      refine t_list_to (n := kvs.length) (items := vs) H5 (H5.get (by walk_at "mem")) (H5.get (.head _)) (by omega) fun lb s5 H6 => ?_
      clear H5
      repeat walk_at "w"
      rename St _ _ _ _ => H5
      have hin : IntsAre (vs.take kvs.length) (nats ks) := by
        have := IntsAre.take hvs kvs.length
        unfold nats at *
        rw [← List.map_take, show (keys kv).take kvs.length = ks by rw [hkl]; exact hpre] at this
        exact this
      refine r_eq_ints H5 (hA.deeper _) (H5.get (by walk_at "mem")) (H5.get (.head _)) hin hki ?_
      exact k _ (St.sub H5 (.cons _ (.cons _ (.cons _ (.cons _ (.cons _ (.cons _ (.cons _ (.refl _)))))))))
end
set_option maxRecDepth 100000
set_option maxHeartbeats 1000000
section
variable {c : Fix} {Z Z0 : List (Addr × Obj)} {W W' : List (Addr × (Obj → Prop))} {s : Shared} {A : Around} {E : Value → Shared → Prop} {Q : Value → Shared → Prop} {ga : Addr} {R : Rls} {n tc : Nat}
theorem keep_list {B h : Heap} {a : Addr} {xs : Array Value} (hb : B.IsList a xs) (hk : ∀ b o, B.get? b = some o → h.get? b = some o) : h.IsList a xs := let ⟨o, ho, r⟩ := hb; ⟨o, hk _ _ ho, r⟩
/-- l[:n] of a list of the base -/
theorem t_base_to {value slice : Expr} {u : Tok} {t sl : Addr} {items : List Value} {n : Nat} (H : St c Z W s) (ht : c.B.IsList t items.toArray) (hs : ∃ o, s.heap.get? sl = some o ∧ SLICE .none (.int (n : Int) u) o) (hz : items.length ≤ 1000000)
    (k : ∀ a s', St c Z ((a, LIST (items.take n)) :: W) s' → Q (.ref a) s')
    (hsub : subscripted slice false (.ref t) (.ref sl) = operate [.ref sl, .ref t] (getItem (.ref t) (.ref sl)) := by rfl) : wpAny (model PG c.w) A (subscriptTail value slice (.ref t) (.ref sl)) Q E s := by
  obtain ⟨o, ho, e⟩ := hs
  unfold SLICE at e
  subst e
  have ht := keep_list ht H.keep
  refine t_slice ht.typeIs slot_list_getitem.lookup (wpAny_getItem_list_slice (lo := none) (hi := some (n : Int)) (st := none) ht ⟨_, ho, rfl, rfl⟩ .none (.int _ _) .none (by simp) ?_ (sz_of (by simpa using hz))) hsub
  have e2 : slicePick items.toArray none (some (n : Int)) none = (items.take n).toArray := by
    by_cases h : n ≤ items.length
    · have := slicePick_upto items.toArray n (by simpa using h)
      simpa using this
    · have e3 : slicePick items.toArray none (some (n : Int)) none = slicePick items.toArray none (some (items.toArray.size : Int)) none := by
        have e4 : sliceBounds none (some (n : Int)) none items.toArray.size = sliceBounds none (some (items.toArray.size : Int)) none items.toArray.size := by
          simp only [sliceBounds, Option.getD_none, List.size_toArray]
          have h2 : ¬ ((n : Int) < 0) := by omega
          have h3 : ¬ ((items.length : Int) < 0) := by omega
          simp only [h2, h3, if_false, show (1 : Int) > 0 by decide, if_true]
          congr 1
          congr 1; omega
        unfold slicePick
        rw [e4]
      rw [e3, slicePick_upto items.toArray _ (Nat.le_refl _)]
      simp [List.take_of_length_le (Nat.le_of_lt (Nat.lt_of_not_le h))]
  rw [e2]
  exact k _ _ (H.push (P := LIST (items.take n)) (o := { cls := .type "list", data := .seq (items.take n).toArray }) ⟨0, rfl⟩ rfl s.toks)
theorem box_spec {sa : Addr} {xs : List Value} {ns : List Int} (H : St c Z W s) (hA : Am A 4) (hs : c.B.IsList sa xs.toArray) (hi : IntsAre xs ns) (hl : xs.length ≤ 100)
    (k : ∀ a Z' s', (∀ p ∈ Z, p ∈ Z') → St c Z' ((a, POOL Z' 0) :: W) s' → Q (.ref a) s') :
    wpAny (model PG c.w) A (call (.ref 217) [.ref sa]) Q E s := by
  have hh : A.handled = none := hA.hh
  refine' wpAny_call (enter (binds := [(Str.ofString "script", .ref sa)]) H hA ?ho ?hcd ?hb ?hloc ?hcell ?h1 ?h2 ?h3 ?h4)
  walk_at "ent"
  intro L s₁ H₁
  rw [ms_lookup] at H₁
  simp only [List.reverse_cons, List.reverse_nil, List.nil_append, List.cons_append, ms] at H₁
  clear H
  repeat walk_at "w"
  rename St _ _ _ _ => H5
  refine t_base_to (n := 40) H5 hs (H5.get (.head _)) (by omega) fun la s2 H6 => ?_
  clear H5
  have hl2 : (xs.take 40).length ≤ 40 := by simp; omega
  have hi2 := IntsAre.take hi 40
  have hil := hi2.length
  rename St _ _ _ _ => H5
  refine cg_list (xs := xs.take 40) (fun j ys Z₂ W₂ => Z₂ = Z ∧ ∃ m, A3 (W₂ = (la, LIST (xs.take 40)) :: (L, NS m) :: W) (INTS ys) (ys.length ≤ j)) (St.sub H5 (.cons_cons _ (.cons _ (.refl _)))) hh ⟨rfl, _, rfl, (fun _ h => nomatch h), Nat.le_refl _⟩ (by omega) ?_ ?_ ?_ ?_ (by decide) rfl
  · rintro j ys Z₂ W₂ hj ⟨rfl, m, rfl, -⟩
    exact At.head
  · exact .inl fun _ _ => rfl
  · rintro it C D j v ys mc Z₂ W₂ s₂ QT hj hy hv ⟨rfl, m, rfl, hys, hyl⟩ H'
    clear H5
    obtain ⟨u, e⟩ := ints_at hi2 (List.getElem?_eq_getElem (show j < (ns.take 40).length by omega))
    obtain rfl : v = .int _ u := Option.some.inj (hv.symm.trans e)
    iterate 2 walk_at "w"
    refine compElt_nil ?_
    repeat walk_at "w"
    rename St _ _ _ _ => H9
    exact ⟨_, _, _, H9, rfl, m, rfl, hys.snoc _ _, by simp; omega⟩
  · rintro C ca ys mc Z₂ W₂ s₂ GG ⟨rfl, m, rfl, hys, hyl⟩ H'
    clear H5
    refine ⟨_, _, _, _, _, H', .tail (.tail .head), fun s₃ H₃ => ?_⟩
    clear H'
    iterate 3 walk_at "w"
    refine x_if_cut (fun s' => ∃ m' g t, St c Z₂ ((ca, LIST ys) :: (la, LIST (xs.take 40)) :: (L, NS m') :: W) s' ∧ m' (Str.ofString "cells") = some (.ref ca) ∧ m' (Str.ofString "great") = some (.int g t)) ?_ ?_
    · repeat walk_at "w"
      refine if_bool (fun he => ?_) (fun he => ?_)
      · repeat walk_at "w"
        exact ⟨rfl, _, _, _, by assumption, by walk_at "lk", by walk_at "lk"⟩
      · have hy0 : 0 < ys.length := List.length_pos_iff.mpr fun e => by subst e; simp at he
        obtain ⟨x0, t0, e0⟩ := hys.at hy0
        repeat walk_at "w"
        rename St _ _ _ _ => H5
        refine t_list (H5.get (.head _)) (by decide) (by decide) e0 ?_
        repeat walk_at "w"
        refine if_dec (fun _ => ?_) (fun _ => ?_)
        · repeat walk_at "w"
          rename St _ _ _ _ => H5
          refine t_list (H5.get (.head _)) (by decide) (by decide) e0 ?_
          repeat walk_at "w"
          exact ⟨rfl, _, _, _, by assumption, by walk_at "lk", by walk_at "lk"⟩
        · repeat walk_at "w"
          exact ⟨rfl, _, _, _, by assumption, by walk_at "lk", by walk_at "lk"⟩
    · rintro s9 ⟨m', g, tg, H9, k1, k2⟩
      have hyz : ys.length ≤ 40 := by omega
      skip
      repeat walk_at "w"
      rename St _ _ _ _ => H5
      refine fg_list (xs := ys) (fun i Z₃ W₃ => Z₃ = Z₂ ∧ ∃ m st t, A6 (W₃ = (ca, LIST ys) :: (la, LIST (xs.take 40)) :: (L, NS m) :: W) (m (Str.ofString "cells") = some (.ref ca)) (m (Str.ofString "great") = some (.int g tg)) (m (Str.ofString "state") = some (.int st t)) (0 ≤ st) (st < 2147483647)) H5 hh
        ⟨rfl, _, _, _, rfl, by walk_at "lk", by walk_at "lk", by walk_at "lk", by decide, by decide⟩ ?_ ?_ ?_ ?_
      · rintro i Z₃ W₃ hi ⟨rfl, m, st, t, rfl, -⟩
        exact At.head
      · exact .inl fun _ _ => rfl
      · clear H5
        rintro it i v Z₃ W₃ s₃ QT hi hv ⟨rfl, m, st, t, rfl, k1, k2, k3, hs0, hs1⟩ H'
        obtain ⟨x1, t1, e1⟩ := hys.at hi
        obtain rfl : v = .int x1 t1 := Option.some.inj (hv.symm.trans e1)
        repeat walk_at "w"
        rename St _ _ _ _ => H9
        exact ⟨_, _, H9, _, rfl, rfl, _, _, _, rfl, by walk_at "lk", by walk_at "lk", by walk_at "lk", (fmod_b _ (by decide)).1, (fmod_b _ (by decide)).2⟩
      · rintro Z₃ W₃ s₃ ⟨rfl, m, st, t, rfl, k1, k2, k3, hs0, hs1⟩ H'
        clear H5
        repeat walk_at "w"
        rename St _ _ _ _ => H9
        obtain ⟨o, ho, G⟩ := H9.freezeD (.tail .head)
        refine k _ _ _ (fun p hp => .tail _ hp) ((St.sub G (.cons_cons _ (.cons _ (.cons _ (.refl _))))).weak fun o1 ho1 => ?_)
        exact ⟨ca, ys, g, st, 0, _, _, _, ho1, ⟨o, .head _, ho⟩, by omega, hys, hs0, hs1, by decide, by decide⟩
end
set_option maxRecDepth 100000
set_option maxHeartbeats 1000000
section
variable {c : Fix} {Z Z0 : List (Addr × Obj)} {W W' : List (Addr × (Obj → Prop))} {s : Shared} {A : Around} {E : Value → Shared → Prop} {Q : Value → Shared → Prop}
theorem le_sum {l : List Nat} {x : Nat} (h : x ∈ l) : x ≤ l.sum := by
  induction l with
  | nil => cases h
  | cons y l ih =>
    rw [List.sum_cons]
    rcases List.mem_cons.mp h with rfl | h
    · omega
    · have := ih h; omega
theorem nats_append (a b : List Nat) : nats (a ++ b) = nats a ++ nats b := List.map_append
theorem x_swap {elts : List Expr} {value : Expr} {kk : Nat} {tpos pos : Pos} {a b : Str} {env : Env} {rest : List Stmt} {QF : Flow → Shared → Prop} (hh : A.handled = none)
    (h : wpAny (model PG c.w) A (eval value env) (fun v s₁ => ∃ Z W t v1 v2, v = .ref t ∧ St c Z W s₁ ∧ At Z W t (TUP [v1, v2]) ∧ ∀ s₂, St c Z W s₂ →
      wpAny (model PG c.w) A (storeName env b v2) (fun _ s₃ => wpAny (model PG c.w) A (storeName env a v1) (fun _ s₄ => wpAny (model PG c.w) A (execs rest env) QF E s₄) E s₃) E s₂) E s)
    (hs : swapsWithSole [.Tuple elts kk tpos] value pos.line env = pure false) (hw : swappedStores [.Tuple elts kk tpos] value env = pure (some [a, b])) :
    wpAny (model PG c.w) A (execs (.Assign [.Tuple elts kk tpos] value pos :: rest) env) QF E s := by
  refine wpAny_execs_cons (Assign_Tuple_swapped (wpAny_mono h ?_ fun _ _ x => x) hs hw)
  rintro v s₁ ⟨Z, W, t, v1, v2, rfl, H, ht, kk⟩
  refine unpackItems_tuple (items := #[v1, v2]) hh (tup_of (H.at ht)) fun h' hk => ?_
  have H' := H.heap (fun b o e => hk b o (Nat.ne_of_lt (Heap.lt_size e)) e) s₁.toks
  show wpAny _ _ (assignInOrder [bindName env b, bindName env a] [v2, v1]) _ _ _
  exact assignInOrder_cons (wpAny_mono (bindName_ (kk _ H')) (fun _ s₁ h₁ => assignInOrder_cons (wpAny_mono (bindName_ h₁) (fun _ s₂ h₂ => assignInOrder_nil h₂) fun _ _ e => e)) fun _ _ e => e)
theorem St.fzk {a : Addr} {P : Obj → Prop} {G : Prop} (H : St c Z ((a, P) :: W) s) (k : ∀ Z', (∀ p ∈ Z, p ∈ Z') → Zs Z' a P → St c Z' W s → G) : G :=
  let ⟨o, h1, h2⟩ := H.freezeD .head; k ((a, o) :: Z) (fun _ h => .tail _ h) ⟨o, .head _, h1⟩ h2
theorem St.frk {a : Addr} {P : Obj → Prop} {G : Prop} (H : St c Z W s) (hd : Del a P W W') (k : ∀ o, P o → St c ((a, o) :: Z) W' s → G) : G :=
  let ⟨o, h1, h2⟩ := H.freezeD hd; k o h1 h2
structure LW (c : Fix) (Z : List (Addr × Obj)) (ga na fa : Addr) (R : Rls) (n tc : Nat) (bs : List Bool) (fv : List Value) (ds : List (Addr × NM)) : Prop where
  g : GRAM Z ga R n tc
  n : Zs Z na (LIST (bs.map Value.bool))
  f : Zs Z fa (LIST fv)
  d : ∀ q ∈ ds, Zs Z q.1 (DI c.w (zz q.2))
theorem LW.mono {Z' : List (Addr × Obj)} {ga na fa : Addr} {R : Rls} {n tc : Nat} {bs : List Bool} {fv : List Value} {ds : List (Addr × NM)} (B : LW c Z ga na fa R n tc bs fv ds) (h : ∀ p ∈ Z, p ∈ Z') : LW c Z' ga na fa R n tc bs fv ds :=
  ⟨B.g.mono h, B.n.mono h, B.f.mono h, fun q hq => (B.d q hq).mono h⟩
theorem LW.add {ga na fa a : Addr} {R : Rls} {n tc : Nat} {bs : List Bool} {fv : List Value} {ds : List (Addr × NM)} {kv : NM} (B : LW c Z ga na fa R n tc bs fv ds) (h : Zs Z a (DI c.w (zz kv))) : LW c Z ga na fa R n tc bs fv ((a, kv) :: ds) :=
  ⟨B.g, B.n, B.f, fun q hq => by
    rcases List.mem_cons.mp hq with rfl | hq
    · exact h
    · exact B.d q hq⟩
theorem zz_len (kv : NM) : (zz kv).length = kv.length := by simp [zz]
theorem zz_pos {kv : NM} (h : kv ≠ []) : 1 ≤ (zz kv).length := by rw [zz_len]; exact List.length_pos_iff.mpr h
theorem zz_lt {kv : NM} (h : kv.length < 64) : (zz kv).length < 64 := by rw [zz_len]; exact h
theorem prs_len {vs : List Value} {S kv : NM} (h : PRS Z vs (zz S)) (hp : S.Perm kv) (hl : kv.length < 64) : vs.length ≤ 64 := by
  rw [h.1, zz_len, hp.length_eq]; omega
def CaseOf (c : Fix) (Z : List (Addr × Obj)) (R : Rls) (tc : Nat) (bs : List Bool) (F : List Nat) (t : Addr) : Prop :=
  ∃ (ka f : Addr) (S cc : NM) (kvs : List Value), Zs Z t (TUP [.ref ka, .ref f]) ∧ Zs Z ka (LIST kvs) ∧ IntsAre kvs (nats (keys S)) ∧ Zs Z f (DI c.w (zz cc)) ∧ Lfp R tc bs F S cc ∧ Good R cc [] ∧ S ≠ [] ∧ S.length ≤ 64
theorem CaseOf.mono {R : Rls} {tc : Nat} {bs : List Bool} {F : List Nat} {t : Addr} {Z' : List (Addr × Obj)} (h : CaseOf c Z R tc bs F t) (hz : ∀ p ∈ Z, p ∈ Z') : CaseOf c Z' R tc bs F t := by
  obtain ⟨ka, f, S, cc, kvs, h1, h2, h3, h4, h5⟩ := h
  exact ⟨ka, f, S, cc, kvs, h1.mono hz, h2.mono hz, h3, h4.mono hz, h5⟩
theorem three {P : Addr → Prop} {t1 t2 t3 : Addr} (h1 : P t1) (h2 : P t2) (h3 : P t3) : ∀ (i : Nat) (v : Value), [Value.ref t1, .ref t2, .ref t3][i]? = some v → ∃ t, v = .ref t ∧ P t := by
  intro i v h
  rcases i with _ | _ | _ | i
  · exact ⟨t1, (Option.some.inj h).symm, h1⟩
  · exact ⟨t2, (Option.some.inj h).symm, h2⟩
  · exact ⟨t3, (Option.some.inj h).symm, h3⟩
  · simp at h
theorem law_spec {sa : Addr} {xs : List Value} {ns : List Int} (H : St c Z W s) (hA : Am A 20) (hs : c.B.IsList sa xs.toArray) (hi : IntsAre xs ns) (hl : xs.length ≤ 100)
    (k : ∀ Z' W' s', St c Z' W' s' → Q (.bool true) s') :
    codeAny (model PG c.w) A (.call (.ref 251) ⟨[.ref sa], []⟩) (fun r s' => match r with | .ok (.ret v) => Q v s' | .ok _ => False | .error e => E e s') s := by
  have hh : A.handled = none := hA.hh
  refine' enterC (binds := [(Str.ofString "script", .ref sa)]) H hA ?ho ?hcd ?hb ?hloc ?hcell ?h1 ?h2 ?h3 ?h4
  case ho => k_is
  case hcd => k_is
  case hb => exact BindsTo.of_eq rfl
  case hloc => exact rfl
  case hcell => decide
  case h1 => exact rfl
  case h2 => exact rfl
  case h3 => exact rfl
  intro L s₁ H₁
  clear H
  have H : St c Z ((L, NS (up (fun _ => none) (Str.ofString "script") (.ref sa))) :: (L + 1 + 1 + 1, CELL none) :: (L + 1 + 1, CELL none) :: (L + 1, CELL none) :: W) s₁ := H₁
  clear H₁
  repeat walk_at "w"
  rename St _ _ _ _ => H5
  refine box_spec H5 (by walk_at "am") hs hi hl fun p Z1 s2 hz1 H6 => ?_
  clear H5
  repeat walk_at "w"
  rename St _ _ _ _ => H5
  refine pairs_spec H5 (by walk_at "am") (fun _ h => h) (by decide) fun pa Z2 xs2 ps s3 hz2 hps hok H6 => ?_
  clear H5
  repeat walk_at "w"
  rename St _ _ _ _ => H5
  have hxl : xs2.length = ps.length := hps.1
  have hpl := hok.len
  have hpair : ∀ (i : Nat) (v : Value), xs2[i]? = some v → ∃ p, v = .ref p := by
    intro i v hv
    have hi : i < ps.length := by rw [← hps.1]; exact (List.getElem?_eq_some_iff.mp hv).1
    obtain ⟨p, la, t, vs, e, -⟩ := hps.2 i hi
    exact ⟨p, Option.some.inj (hv.symm.trans e)⟩
  refine cg_list (xs := xs2) (fun j ys Z₂ W₂ => (∀ p ∈ Z2, p ∈ Z₂) ∧ ∃ m, A4 (W₂ = (pa, LIST xs2) :: (p, POOL Z1 (0 + 100)) :: (L, NS m) :: (L + 1 + 1 + 1, CELL none) :: (L + 1 + 1, CELL none) :: (L + 1, CELL none) :: W) (PAIRS Z₂ ys (ps.take j)) (m (Str.ofString "pool") = some (.ref p)) (m (Str.ofString "pairs") = some (.ref pa))) H5 hh
    ⟨fun _ h => h, _, rfl, PAIRS.nil, by walk_at "lk", by walk_at "lk"⟩ (by omega) ?_ (.inr ⟨⟨_, _, _, rfl⟩, hpair⟩) ?_ ?_ (by decide) rfl
  · rintro j ys Z₂ W₂ hj ⟨hz, m, rfl, -⟩
    exact At.head
  · rintro it C D j v ys mc Z₂ W₂ s₂ QT hj hy hv ⟨hz, m, rfl, hp, m1, m2⟩ H'
    clear H5
    have hj' : j < ps.length := by rw [← hps.1]; exact hj
    obtain ⟨pp, la, t, vs, e, z1, z2, z3⟩ := hps.2 j hj'
    obtain rfl : v = .ref pp := Option.some.inj (hv.symm.trans e)
    have z1' := z1.mono hz
    have z2' := z2.mono hz
    refine r_unpack2 H' hh (.inr z1') fun s' H' => ?_
    repeat walk_at "w"
    clear H'
    have hvl : vs.length ≤ 21 := by rw [z3.len_eq]; exact Nat.le_trans (le_sum (List.mem_map.mpr ⟨_, List.getElem_mem hj', rfl⟩)) hok.parts
    refine compElt_nil ?_
    repeat walk_at "w"
    rename St _ _ _ _ => H5
    obtain ⟨Z3, hz3, hp3, G⟩ := freeze_pair H5 hp z3
    refine ⟨Z3, _, _, G, fun p hp => hz3 _ (hz p hp), _, rfl, ?_, by walk_at "lk", by walk_at "lk"⟩
    rw [List.take_add_one, List.getElem?_eq_getElem hj']
    exact hp3
  · rintro C D ys mc Z₂ W₂ s₂ GG ⟨hz, m, rfl, hp, m1, m2⟩ H'
    clear H5
    rw [show xs2.length = ps.length from hxl, List.take_of_length_le (Nat.le_refl _)] at hp
    have hys := hp.1
    refine ⟨_, _, _, _, rfl, H', fun s₃ H₃ => ?_⟩
    clear H'
    repeat walk_at "w"
    rename St _ _ _ _ => H5
    refine H5.frk .head fun o1 q1 H6 => ?_
    clear H5
    refine plain_spec H6 (by walk_at "am") ⟨o1, .head _, q1⟩ (hp.mono fun p hp => .tail _ hp) hok fun ga R n tc Z3 s4 hz3 hg hRl hRr H7 => ?_
    clear H6
    repeat walk_at "w"
    rename St _ _ _ _ => H5
    have hps3 : PAIRS Z3 xs2 ps := hps.mono fun q hq => hz3 _ (.tail _ (hz _ hq))
    refine cg_list (xs := xs2) (fun j ys Z₂ W₂ => Z₂ = Z3 ∧ ∃ m, A4 (W₂ = (pa, LIST xs2) :: (p, POOL Z1 (0 + 100)) :: (L, NS m) :: (L + 1 + 1 + 1, CELL none) :: (L + 1 + 1, CELL none) :: (L + 1, CELL none) :: W) (IntsAre ys (nats ((ps.take j).map fun q => q.2.length))) (m (Str.ofString "pool") = some (.ref p)) (m (Str.ofString "grammar") = some (.ref ga))) H5 hh
      ⟨rfl, _, rfl, .nil, by walk_at "lk", by walk_at "lk"⟩ (by omega) ?_ (.inr ⟨⟨_, _, _, rfl⟩, hpair⟩) ?_ ?_ (by decide) rfl
    · rintro j ys Z₂ W₂ hj ⟨hz, m, rfl, -⟩
      exact At.head
    · rintro it C D j v ys mc Z₂ W₂ s₂ QT hj hy hv ⟨rfl, m, rfl, hi2, m1, m2⟩ H'
      clear H5
      have hj' : j < ps.length := by rw [← hps.1]; exact hj
      obtain ⟨pp, la, t, vs, e, z1, z2, z3⟩ := hps3.2 j hj'
      obtain rfl : v = .ref pp := Option.some.inj (hv.symm.trans e)
      have hvl : vs.length ≤ 21 := by rw [z3.len_eq]; exact Nat.le_trans (le_sum (List.mem_map.mpr ⟨_, List.getElem_mem hj', rfl⟩)) hok.parts
      refine r_unpack2 H' hh (.inr z1) fun s' H' => ?_
      repeat walk_at "w"
      clear H'
      refine compElt_nil ?_
      repeat walk_at "w"
      rename St _ _ _ _ => H5
      refine ⟨_, _, _, H5, rfl, _, rfl, ?_, by walk_at "lk", by walk_at "lk"⟩
      rw [List.take_add_one, List.getElem?_eq_getElem hj', List.map_append, nats_append]
      rw [z3.len_eq]
      exact Mine.IntsAre.snoc hi2 _ _
    · rintro C D ys mc Z₂ W₂ s₂ GG ⟨rfl, m, rfl, hi2, m1, m2⟩ H'
      clear H5
      rw [show xs2.length = ps.length from hxl, List.take_of_length_le (Nat.le_refl _)] at hi2
      refine ⟨_, _, _, _, _, H', .tail (.tail (.tail .head)), fun s₃ H₃ => ?_⟩
      clear H'
      replace H₃ : St c Z₂ ((D, LIST ys) :: (pa, LIST xs2) :: (p, POOL Z1 (0 + 100)) :: (L, NS (up m (Str.ofString "sizes") (.ref D))) :: (L + 1 + 1 + 1, CELL none) :: (L + 1 + 1, CELL none) :: (L + 1, CELL none) :: W) s₃ := H₃
      have hS : Sizes R (ps.map fun q => q.2.length) := ⟨by rw [List.length_map]; exact hRl, fun e => hok.ne (List.map_eq_nil_iff.mp e), by rw [List.length_map]; exact hpl, fun i h => by rw [List.length_map] at h; rw [hRr i h, List.getElem_map]⟩
      refine H₃.frk .head fun o2 q2 H6 => ?_
      clear H₃
      have hsz : Zs ((D, o2) :: Z₂) D (LIST ys) := ⟨o2, .head _, q2⟩
      have hg2 : GRAM ((D, o2) :: Z₂) ga R n tc := hg.mono fun _ h => .tail _ h
      have hz1a : ∀ q ∈ Z1, q ∈ (D, o2) :: Z₂ := fun q hq => .tail _ (hz3 _ (.tail _ (hz _ (hz2 _ hq))))
      clear hg
      generalize (D, o2) :: Z₂ = Z4 at hsz hg2 hz1a H6
      refine x_swap hh ?_ rfl rfl
      repeat walk_at "w"
      rename St _ _ _ _ => H5
      refine nullable_spec H5 (by walk_at "am") hg2 fun na bs s5 hbs H6 => ?_
      clear H5
      repeat walk_at "w"
      rename St _ _ _ _ => H5
      refine firsts_spec H5 (by walk_at "am") hg2 fun fa fv F s6 hFl hFt hF H6 => ?_
      clear H5
      repeat walk_at "w"
      rename St _ _ _ _ => H5
      refine ⟨_, _, _, _, _, rfl, H5, .head, fun s7 H6 => ?_⟩
      clear H5
      repeat walk_at "w"
      rename St _ _ _ _ => H5
      refine H5.frk (.tail .head) fun o3 q3 H6 => ?_
      refine H6.frk (.tail .head) fun o4 q4 H7 => ?_
      clear H5 H6
      have hz45 : ∀ q ∈ Z4, q ∈ (na, o4) :: (fa, o3) :: Z4 := fun q hq => .tail _ (.tail _ hq)
      have hna : Zs ((na, o4) :: (fa, o3) :: Z4) na (LIST (bs.map Value.bool)) := ⟨o4, .head _, q4⟩
      have hfa : Zs ((na, o4) :: (fa, o3) :: Z4) fa (LIST fv) := ⟨o3, .tail _ (.head _), q3⟩
      generalize (na, o4) :: (fa, o3) :: Z4 = Z5 at hz45 hna hfa H7
      have hg5 := hg2.mono hz45
      have hz15 : ∀ q ∈ Z1, q ∈ Z5 := fun q hq => hz45 _ (hz1a _ hq)
      have hsz5 := hsz.mono hz45
      clear hg2 hsz hz1a hz45
      repeat walk_at "w"
      rename St _ _ _ _ => H5
      refine kernel_spec (St.sub H5 (.cons _ (.cons _ (.refl _)))) (by walk_at "am") hz15 (by decide) hg5 hsz5 hi2 hS fun oa kv1 s8 hk1 H6 => ?_
      clear H5
      refine H6.frk .head fun o5 q5 H7 => ?_
      clear H6
      have hz56 : ∀ q ∈ Z5, q ∈ (oa, o5) :: Z5 := fun q hq => .tail _ hq
      have hoa : Zs ((oa, o5) :: Z5) oa (DI c.w (zz kv1)) := ⟨o5, .head _, q5⟩
      generalize (oa, o5) :: Z5 = Z6 at hz56 hoa H7
      repeat walk_at "w"
      rename St _ _ _ _ => H5
      refine kernel_spec H5 (by walk_at "am") (fun q hq => hz56 _ (hz15 _ hq)) (by decide) (hg5.mono hz56) (hsz5.mono hz56) hi2 hS fun ob kv2 s9 hk2 H6 => ?_
      clear H5
      refine H6.frk .head fun o6 q6 H7 => ?_
      clear H6
      have hz57 : ∀ q ∈ Z5, q ∈ (ob, o6) :: Z6 := fun q hq => .tail _ (hz56 _ hq)
      have hob : Zs ((ob, o6) :: Z6) ob (DI c.w (zz kv2)) := ⟨o6, .head _, q6⟩
      have hoa' : Zs ((ob, o6) :: Z6) oa (DI c.w (zz kv1)) := hoa.mono fun _ h => .tail _ h
      clear hz56 hoa
      generalize (ob, o6) :: Z6 = Z7 at hz57 hob hoa' H7
      have hg := hg5.mono hz57
      have hn := hna.mono hz57
      have hf := hfa.mono hz57
      have hs7 := hsz5.mono hz57
      clear hg5 hna hfa hsz5 hz15 hz57
      repeat walk_at "w"
      rename St _ _ _ _ => H5
      refine r_unpack2 H5 hh .head fun s' H' => ?_
      clear H5
      repeat walk_at "w"
      have B : LW c Z7 ga na fa R n tc bs fv [(oa, kv1), (ob, kv2)] := ⟨hg, hn, hf, fun q hq => by
        rcases List.mem_cons.mp hq with rfl | hq
        · exact hoa'
        · rw [List.mem_singleton.mp hq]; exact hob⟩
      have hnit : nit R < 64 := by
        obtain ⟨_, _, _, _, _, _, _, _, _, _, _, _, _, g⟩ := hg
        exact g.well.items
      have l1 : kv1.length < 64 := Nat.lt_of_le_of_lt hk1.len (by decide)
      have l2 : kv2.length < 64 := Nat.lt_of_le_of_lt hk2.len (by decide)
      clear hg hn hf hoa' hob hs7
      rename St _ _ _ _ => H5
      have H6 := H5.tail.tail
      clear H5
      have hx := B.d (oa, kv1) (by simp)
      repeat walk_at "w"
      rename St _ _ _ _ => H5
      refine r_items H5 (H5.notmodZ hx) (H5.zs hx) fun va s' H6 => ?_
      clear H5
      repeat walk_at "w"
      rename St _ _ _ _ => H5
      refine r_sorted_items H5 hh (by walk_at "rd") (H5.zs hx) (zz_pos hk1.ne) (zz_lt l1) fun a Zn vs l s' hz hp hperm hpw1 H6 => ?_
      clear H5 hx
      obtain ⟨S1, hS1, rfl⟩ := zz_perm hperm
      have hvs : vs.length ≤ 64 := prs_len hp hS1 l1
      replace B := B.mono hz
      repeat walk_at "w"
      rename St _ _ _ _ => H5
      refine H5.fzk fun Zm hzm hkt H6 => ?_
      clear H5
      replace hp := hp.mono hzm
      replace B := B.mono hzm
      repeat walk_at "w"
      rename St _ _ _ _ => H5
      refine closure_spec H5 (by walk_at "am") B.g hkt hp B.n hbs B.f hF hFl hFt (good_perm (kern_good hk1) hS1) fun ca1 c1 s' hr hgc1 H6 => ?_
      clear H5
      refine H6.fzk fun Zq hzq hca H7 => ?_
      clear H6
      replace H7 := H7.tail.tail
      have hL1 := closure_lfp hFt (good_perm (kern_good hk1) hS1) hr
      replace B := (B.mono hzq).add hca
      have hzz1 := fun p hp => hzq p (hzm p (hz p hp))
      clear hp hvs hkt hca hr hperm
      try clear hz
      try clear hzm
      try clear hzq
      have hx := B.d (ob, kv2) (by simp)
      repeat walk_at "w"
      rename St _ _ _ _ => H5
      refine r_items H5 (H5.notmodZ hx) (H5.zs hx) fun va s' H6 => ?_
      clear H5
      repeat walk_at "w"
      rename St _ _ _ _ => H5
      refine r_sorted_items H5 hh (by walk_at "rd") (H5.zs hx) (zz_pos hk2.ne) (zz_lt l2) fun a Zn vs l s' hz hp hperm hpw2 H6 => ?_
      clear H5 hx
      obtain ⟨S2, hS2, rfl⟩ := zz_perm hperm
      have hvs : vs.length ≤ 64 := prs_len hp hS2 l2
      replace B := B.mono hz
      repeat walk_at "w"
      rename St _ _ _ _ => H5
      refine H5.fzk fun Zm hzm hkt H6 => ?_
      clear H5
      replace hp := hp.mono hzm
      replace B := B.mono hzm
      repeat walk_at "w"
      rename St _ _ _ _ => H5
      refine closure_spec H5 (by walk_at "am") B.g hkt hp B.n hbs B.f hF hFl hFt (good_perm (kern_good hk2) hS2) fun ca2 c2 s' hr hgc2 H6 => ?_
      clear H5
      refine H6.fzk fun Zq hzq hca H7 => ?_
      clear H6
      replace H7 := H7.tail.tail
      have hL2 := closure_lfp hFt (good_perm (kern_good hk2) hS2) hr
      replace B := (B.mono hzq).add hca
      have hzz2 := fun p hp => hzq p (hzm p (hz p hp))
      clear hp hvs hkt hca hr hperm
      try clear hz
      try clear hzm
      try clear hzq
      repeat walk_at "w"
      rename St _ _ _ _ => H5
      refine joined_spec H5 (by walk_at "am") (B.d (oa, kv1) (by simp)) (B.d (ob, kv2) (by simp)) hk1.nodup hk2.nodup (Nat.le_of_lt l1) (Nat.le_of_lt l2) fun ja Zj s' hzj H6 => ?_
      clear H5
      refine H6.fzk fun Zk hzk hja H7 => ?_
      clear H6
      replace B := ((B.mono hzj).mono hzk).add hja
      clear hja hzj hzk
      have gj := good_join hk1 hk2
      have l3 : (joinN kv1 kv2).length < 64 := Nat.lt_of_le_of_lt gj.len hnit
      have lc1 : c1.length < 64 := Nat.lt_of_le_of_lt hgc1.len hnit
      have lc2 : c2.length < 64 := Nat.lt_of_le_of_lt hgc2.len hnit
      have hx := B.d (ja, joinN kv1 kv2) (by simp)
      repeat walk_at "w"
      rename St _ _ _ _ => H5
      refine r_items H5 (H5.notmodZ hx) (H5.zs hx) fun va s' H6 => ?_
      clear H5
      repeat walk_at "w"
      rename St _ _ _ _ => H5
      refine r_sorted_items H5 hh (by walk_at "rd") (H5.zs hx) (zz_pos (joinN_ne hk1.ne hk2.nodup)) (zz_lt l3) fun a Zn vs l s' hz hp hperm hpw3 H6 => ?_
      clear H5 hx
      obtain ⟨S3, hS3, rfl⟩ := zz_perm hperm
      have hvs : vs.length ≤ 64 := prs_len hp hS3 l3
      replace B := B.mono hz
      repeat walk_at "w"
      rename St _ _ _ _ => H5
      refine H5.fzk fun Zm hzm hkt H6 => ?_
      clear H5
      replace hp := hp.mono hzm
      replace B := B.mono hzm
      repeat walk_at "w"
      rename St _ _ _ _ => H5
      refine closure_spec H5 (by walk_at "am") B.g hkt hp B.n hbs B.f hF hFl hFt (good_perm gj hS3) fun ca3 c3 s' hr hgc3 H6 => ?_
      clear H5
      refine H6.fzk fun Zq hzq hca H7 => ?_
      clear H6
      replace H7 := H7.tail.tail
      have hL3 := closure_lfp hFt (good_perm gj hS3) hr
      replace B := (B.mono hzq).add hca
      have hzz3 := fun p hp => hzq p (hzm p (hz p hp))
      clear hp hvs hkt hca hr hperm
      try clear hz
      try clear hzm
      try clear hzq
      repeat walk_at "w"
      rename St _ _ _ _ => H5
      refine joined_spec H5 (by walk_at "am") (B.d (ca1, c1) (by simp)) (B.d (ca2, c2) (by simp)) hgc1.nodup hgc2.nodup (Nat.le_of_lt lc1) (Nat.le_of_lt lc2) fun jb Zj s' hzj H6 => ?_
      clear H5
      replace B := B.mono hzj
      clear hzj
      repeat walk_at "w"
      rename St _ _ _ _ => H5
      refine r_ne_dict H5 (hA.deeper _) (H5.notmodZ (B.d (ca3, c3) (by simp))) (H5.notmod (.head _)) (H5.zs (B.d (ca3, c3) (by simp))) (H5.get (.head _)) (iv_all (joined_laws hk1 hk2 hS1 hS2 hS3 hL1 hL2 hL3 hgc2.nodup)) ?_
      have H6 := H5.tail
      clear H5
      repeat walk_at "w"
      rename St _ _ _ _ => H5
      have hx := B.d (oa, kv1) (by simp)
      refine r_sorted_dict H5 hh (H5.notmodZ hx) (H5.zs hx) (zz_lt l1) fun g1 vs1 ks1 s' hi1 hp1 hw1 H6 => ?_
      clear H5 hx
      obtain rfl := keys_sorted hp1 hw1 hS1 hpw1
      clear hp1 hw1
      refine H6.fzk fun Zm hzm hg1 H7 => ?_
      clear H6
      replace B := B.mono hzm
      clear hzm
      repeat walk_at "w"
      rename St _ _ _ _ => H5
      have hx := B.d (ob, kv2) (by simp)
      refine r_sorted_dict H5 hh (H5.notmodZ hx) (H5.zs hx) (zz_lt l2) fun g2 vs2 ks2 s' hi2' hp2 hw2 H6 => ?_
      clear H5 hx
      obtain rfl := keys_sorted hp2 hw2 hS2 hpw2
      clear hp2 hw2
      refine H6.fzk fun Zm2 hzm2 hg2' H7 => ?_
      clear H6
      replace B := B.mono hzm2
      replace hg1 := hg1.mono hzm2
      clear hzm2
      repeat walk_at "w"
      rename St _ _ _ _ => H5
      have hx := B.d (ja, joinN kv1 kv2) (by simp)
      refine r_sorted_dict H5 hh (H5.notmodZ hx) (H5.zs hx) (zz_lt l3) fun g3 vs3 ks3 s' hi3 hp3 hw3 H6 => ?_
      clear H5 hx
      obtain rfl := keys_sorted hp3 hw3 hS3 hpw3
      clear hp3 hw3
      refine H6.fzk fun Zm3 hzm3 hg3 H7 => ?_
      clear H6
      replace B := B.mono hzm3
      replace hg1 := hg1.mono hzm3
      replace hg2' := hg2'.mono hzm3
      clear hzm3
      repeat walk_at "w"
      rename St _ _ _ _ => H5
      refine H5.fzk fun Za hza hta H6 => ?_
      refine H6.fzk fun Zb hzb htb H7 => ?_
      refine H7.fzk fun Zc hzc htc H8 => ?_
      refine H8.fzk fun Zd hzd htd H9 => ?_
      clear H5 H6 H7 H8
      replace B := (((B.mono hza).mono hzb).mono hzc).mono hzd
      have T1 : CaseOf c Zd R tc bs F _ := ⟨g1, ca1, S1, c1, vs1, htd, (((hg1.mono hza).mono hzb).mono hzc).mono hzd, hi1, B.d (ca1, c1) (by simp), hL1, hgc1, perm_ne hS1 hk1.ne, by rw [hS1.length_eq]; exact Nat.le_of_lt l1⟩
      have T2 : CaseOf c Zd R tc bs F _ := ⟨g2, ca2, S2, c2, vs2, htc.mono hzd, (((hg2'.mono hza).mono hzb).mono hzc).mono hzd, hi2', B.d (ca2, c2) (by simp), hL2, hgc2, perm_ne hS2 hk2.ne, by rw [hS2.length_eq]; exact Nat.le_of_lt l2⟩
      have T3 : CaseOf c Zd R tc bs F _ := ⟨g3, ca3, S3, c3, vs3, (htb.mono hzc).mono hzd, (((hg3.mono hza).mono hzb).mono hzc).mono hzd, hi3, B.d (ca3, c3) (by simp), hL3, hgc3, perm_ne hS3 (joinN_ne hk1.ne hk2.nodup), by rw [hS3.length_eq]; exact Nat.le_of_lt l3⟩
      have hta' := ((hta.mono hzb).mono hzc).mono hzd
      have hcase := three T1 T2 T3
      clear hg1 hg2' hg3 hta htb htc htd hza hzb hzc hzd T1 T2 T3
      have H5 := H9
      clear H9
      generalize hxs : [Value.ref _, Value.ref _, Value.ref _] = xs3 at hcase hta'
      have hx3 : xs3.length = 3 := by rw [← hxs]; rfl
      clear hxs
      refine fg_tup (xs := xs3) (fun i Z₃ W₃ => (∀ p ∈ Zd, p ∈ Z₃) ∧ ∃ m, A4 (W₃ = (L, NS m) :: (L + 1 + 1 + 1, CELL none) :: (L + 1 + 1, CELL (some (.ref ca1))) :: (L + 1, CELL (some (.ref oa))) :: W) (m (Str.ofString "grammar") = some (.ref ga)) (m (Str.ofString "empties") = some (.ref na)) (m (Str.ofString "firsts") = some (.ref fa))) H5 hh
        ⟨fun _ h => h, _, rfl, by walk_at "lk", by walk_at "lk", by walk_at "lk"⟩ (fun i Z' W' hi hJ => .inr (hta'.mono hJ.1)) (.inr ⟨⟨_, _, _, rfl⟩, fun i v h => let ⟨t, e, _⟩ := hcase i v h; ⟨t, e⟩⟩) ?_ ?_
      · rintro it i v Z₃ W₃ s₃ QT hi hv ⟨hz3, m3, rfl, m31, m32, m33⟩ H'
        clear H5
        obtain ⟨tt, rfl, hC⟩ := hcase i v hv
        obtain ⟨ka, f, S, cc, kvs, q1, q2, q3, q4, hL, hgc, hSn, hSl⟩ := hC.mono hz3
        replace B := (B.mono hz3).add q4
        clear hz1 hz2 hz
        refine r_unpack2 H' hh (.inr q1) fun s' H6 => ?_
        clear H'
        repeat walk_at "w"
        rename St _ _ _ _ => H5
        have lcc : cc.length < 64 := Nat.lt_of_le_of_lt hgc.len hnit
        refine closed_spec H5 (by walk_at "am") B.g q4 (.inr q2) q3 hgc.items (Nat.le_of_lt lcc) (by unfold keys; rw [List.length_map]; exact hSl) (lfp_added hL) (lfp_take hL) fun s' H6 => ?_
        clear H5
        repeat walk_at "w"
        have hx := q4
        repeat walk_at "w"
        rename St _ _ _ _ => H5
        refine r_items H5 (H5.notmodZ hx) (H5.zs hx) fun va s' H6 => ?_
        clear H5
        repeat walk_at "w"
        rename St _ _ _ _ => H5
        refine r_sorted_items H5 hh (by walk_at "rd") (H5.zs hx) (zz_pos (lfp_ne hL hSn)) (zz_lt lcc) fun a Zn vs l s' hz hp hperm hpw4 H6 => ?_
        clear H5 hx
        obtain ⟨S4, hS4, rfl⟩ := zz_perm hperm
        have hvs : vs.length ≤ 64 := prs_len hp hS4 lcc
        replace B := B.mono hz
        repeat walk_at "w"
        rename St _ _ _ _ => H5
        refine H5.fzk fun Zm hzm hkt H6 => ?_
        clear H5
        replace hp := hp.mono hzm
        replace B := B.mono hzm
        repeat walk_at "w"
        rename St _ _ _ _ => H5
        refine closure_spec H5 (by walk_at "am") B.g hkt hp B.n hbs B.f hF hFl hFt (good_perm (good_all hgc) hS4) fun ca4 c4 s' hr hgc4 H6 => ?_
        clear H5
        refine H6.fzk fun Zq hzq hca H7 => ?_
        clear H6
        replace H7 := H7.tail.tail
        have hL4 := closure_lfp hFt (good_perm (good_all hgc) hS4) hr
        replace B := (B.mono hzq).add hca
        have hzz4 := fun p hp => hzq p (hzm p (hz p hp))
        clear hp hvs hkt hca hr hperm
        try clear hz
        try clear hzm
        try clear hzq
        repeat walk_at "w"
        rename St _ _ _ _ => H5
        have y4 := B.d (ca4, c4) (by simp)
        have yf := B.d (f, cc) (by simp)
        refine r_ne_dict H5 (hA.deeper _) (H5.notmodZ y4) (H5.notmodZ yf) (H5.zs y4) (H5.zs yf) (iv_all (lfp_again hL hgc.nodup hS4 hL4)) ?_
        repeat walk_at "w"
        exact ⟨_, _, by assumption, _, rfl, fun p hp => hzz4 p (hz3 p hp), _, rfl, by walk_at "lk", by walk_at "lk", by walk_at "lk"⟩
      · rintro Z₃ W₃ s₃ ⟨hz3, m3, rfl, m31, m32, m33⟩ H'
        clear H5 hcase hta'
        replace B := B.mono hz3
        repeat walk_at "w"
        rename St _ _ _ _ => H5
        refine cg_keys (kv := zz kv1) (fun j ys Z₂ W₂ => A3 ((∀ p ∈ Z₃, p ∈ Z₂)) (W₂ = (L, NS m3) :: (L + 1 + 1 + 1, CELL none) :: (L + 1 + 1, CELL (some (.ref ca1))) :: (L + 1, CELL (some (.ref oa))) :: W) (PRS Z₂ ys ((zz (moreN kv1)).take j))) H5 hh (B.d (oa, kv1) (by simp)) (by rw [zz_len]; omega) (fun i ys Z' W' hi hJ => hJ.1)
          ⟨fun _ h => h, rfl, PRS.nil⟩ ?_ ?_ ?_ (by decide) rfl
        · exact .inl fun _ _ => rfl
        · rintro S it C D i v ys mc Z₂ W₂ s₂ QT hi hy ⟨kk, tk, ek, rfl⟩ ⟨hz2, rfl, hp⟩ H'
          clear H5
          have hi' : i < kv1.length := by rw [zz_len] at hi; exact hi
          rw [zz_key hi'] at ek
          obtain rfl := (Option.some.inj ek).symm
          have h1' : Zs Z₂ oa (DI c.w (zz kv1)) := (B.d (oa, kv1) (by simp)).mono hz2
          have hiv : iv (zz kv1) ((kv1[i].1 : Nat) : Int) = some ((kv1[i].2 : Nat) : Int) := by rw [iv_zz, nv_mem hk1.nodup hi']; rfl
          iterate 2 walk_at "w"
          refine compElt_nil ?_
          repeat walk_at "w"
          rename St _ _ _ _ => H5
          rw [show Builtin.bitOr ((kv1[i].2 : Nat) : Int) 4 = ((kv1[i].2 ||| 4 : Nat) : Int) from bitOr_nat _ 4] at H5
          obtain ⟨Z5, hz5, hp5, G⟩ := freeze_prs (q := (((kv1[i].1 : Nat) : Int), ((kv1[i].2 ||| 4 : Nat) : Int))) H5 hp
          have e : (zz (moreN kv1)).take (i + 1) = (zz (moreN kv1)).take i ++ [(((kv1[i].1 : Nat) : Int), ((kv1[i].2 ||| 4 : Nat) : Int))] := by
            rw [List.take_add_one]
            congr 1
            simp [zz, moreN, hi']
          exact ⟨Z5, _, _, G, fun p hp => hz5 _ (hz2 p hp), rfl, by rw [e]; exact hp5⟩
        · rintro C D ys mc Z₂ W₂ s₂ GG ⟨hz2, rfl, hp⟩ H'
          clear H5
          have hml : (moreN kv1).length = kv1.length := by unfold moreN; rw [List.length_map]
          rw [show (zz kv1).length = (zz (moreN kv1)).length by rw [zz_len, zz_len, hml], List.take_of_length_le (Nat.le_refl _)] at hp
          have hys := hp.1
          rw [zz_len, hml] at hys
          refine ⟨_, _, _, _, rfl, H', fun s₃ H₃ => ?_⟩
          clear H'
          replace B := B.mono hz2
          repeat walk_at "w"
          rename St _ _ _ _ => H5
          refine r_dict_list H5 hh At.head hp (by omega) fun fd s4 H6 => ?_
          rw [dictOfPairs_zz (by rw [keys_more]; exact hk1.nodup)] at H6
          clear H5
          refine H6.fzk fun Zm hzm hfd H7 => ?_
          clear H6
          replace B := (B.mono hzm).add hfd
          clear hp hfd hzm
          have nm : moreN kv1 ≠ [] := fun e => hk1.ne (List.length_eq_zero_iff.mp (by rw [← hml, e]; rfl))
          have lm : (moreN kv1).length < 64 := by rw [hml]; exact l1
          have hx := B.d (fd, moreN kv1) (by simp)
          repeat walk_at "w"
          rename St _ _ _ _ => H5
          refine r_items H5 (H5.notmodZ hx) (H5.zs hx) fun va s' H6 => ?_
          clear H5
          repeat walk_at "w"
          rename St _ _ _ _ => H5
          refine r_sorted_items H5 hh (by walk_at "rd") (H5.zs hx) (zz_pos nm) (zz_lt lm) fun a Zn vs l s' hz hp hperm hpw5 H6 => ?_
          clear H5 hx
          obtain ⟨S5, hS5, rfl⟩ := zz_perm hperm
          have hvs : vs.length ≤ 64 := prs_len hp hS5 lm
          replace B := B.mono hz
          repeat walk_at "w"
          rename St _ _ _ _ => H5
          refine H5.fzk fun Zm hzm hkt H6 => ?_
          clear H5
          replace hp := hp.mono hzm
          replace B := B.mono hzm
          repeat walk_at "w"
          rename St _ _ _ _ => H5
          refine closure_spec H5 (by walk_at "am") B.g hkt hp B.n hbs B.f hF hFl hFt (good_perm (good_more hk1) hS5) fun ca5 c5 s' hr hgc5 H6 => ?_
          clear H5
          refine H6.fzk fun Zq hzq hca H7 => ?_
          clear H6
          replace H7 := H7.tail.tail
          have hL5 := closure_lfp hFt (good_perm (good_more hk1) hS5) hr
          replace B := (B.mono hzq).add hca
          have hzz5 := fun p hp => hzq p (hzm p (hz p hp))
          clear hp hvs hkt hca hr hperm
          try clear hz
          try clear hzm
          try clear hzq
          have lc5 : c5.length < 64 := Nat.lt_of_le_of_lt hgc5.len hnit
          repeat walk_at "w"
          rename St _ _ _ _ => H5
          have hx := B.d (ca5, c5) (by simp)
          refine r_sorted_dict H5 hh (H5.notmodZ hx) (H5.zs hx) (zz_lt lc5) fun g5 vs5 ks5 s' hi5 hp5 hw5 H6 => ?_
          clear H5 hx
          repeat walk_at "w"
          rename St _ _ _ _ => H5
          have hx := B.d (ca1, c1) (by simp)
          refine r_sorted_dict H5 hh (H5.notmodZ hx) (H5.zs hx) (zz_lt lc1) fun g6 vs6 ks6 s' hi6 hp6 hw6 H6 => ?_
          clear H5 hx
          obtain ⟨gp, gsub⟩ := grown_laws hFt hk1 hS1 hS5 hL1 hL5 hgc1 hgc5
          have he : ((zz c5).map (·.1)).Perm ((zz c1).map (·.1)) := by rw [keys_zz, keys_zz]; exact gp.map _
          obtain rfl := lks_uniq ((hp5.trans he).trans hp6.symm) hw5 hw6
          clear hp5 hp6 hw5 hw6 he
          repeat walk_at "w"
          rename St _ _ _ _ => H5
          refine r_eq_ints H5 (hA.deeper _) (H5.get (by walk_at "mem")) (H5.get (by walk_at "mem")) hi5 hi6 ?_
          have H6 := H5.tail.tail.tail
          clear H5 hi5 hi6
          repeat walk_at "w"
          rename St _ _ _ _ => H5
          refine cg_keys (kv := zz c1) (fun j ys Z₂ W₂ => (∀ p ∈ _, p ∈ Z₂) ∧ ∃ m, W₂ = (L, NS m) :: (L + 1 + 1 + 1, CELL (some (.ref ca5))) :: (L + 1 + 1, CELL (some (.ref ca1))) :: (L + 1, CELL (some (.ref oa))) :: W ∧ ys = []) H5 hh (B.d (ca1, c1) (by simp)) (by rw [zz_len]; omega) (fun i ys Z' W' hi hJ => hJ.1)
            ⟨fun _ h => h, _, rfl, rfl⟩ ?_ ?_ ?_ (by decide) rfl
          · exact .inl fun _ _ => rfl
          · rintro S it C D i v ys mc Z₂ W₂ s₂ QT hi hy ⟨kk, tk, ek, rfl⟩ ⟨hz2, m5, rfl, rfl⟩ H'
            clear H5
            have hi' : i < c1.length := by rw [zz_len] at hi; exact hi
            rw [zz_key hi'] at ek
            obtain rfl := (Option.some.inj ek).symm
            have h1' : Zs Z₂ ca1 (DI c.w (zz c1)) := (B.d (ca1, c1) (by simp)).mono hz2
            have h5' : Zs Z₂ ca5 (DI c.w (zz c5)) := (B.d (ca5, c5) (by simp)).mono hz2
            have hn1 := nv_mem hgc1.nodup hi'
            obtain ⟨bm, hn5, hand⟩ := gsub _ _ hn1
            have hiv : iv (zz c1) ((c1[i].1 : Nat) : Int) = some ((c1[i].2 : Nat) : Int) := by rw [iv_zz, hn1]; rfl
            have hiv5 : iv (zz c5) ((c1[i].1 : Nat) : Int) = some ((bm : Nat) : Int) := by rw [iv_zz, hn5]; rfl
            iterate 2 walk_at "w"
            refine compElt_one ?_
            repeat walk_at "w"
            have hz0 : Builtin.bitAnd ((c1[i].2 : Nat) : Int) (Builtin.bitNot ((bm : Nat) : Int)) = 0 := by rw [bitSub_nat, hand]; omega
            refine if_bool (fun h => absurd h (by rw [hz0]; decide)) (fun _ => ?_)
            exact ⟨_, _, _, by assumption, hz2, _, rfl, rfl⟩
          · rintro C D ys mc Z₂ W₂ s₂ GG ⟨hz2, m5, rfl, rfl⟩ H'
            clear H5
            refine ⟨_, _, _, _, rfl, H', fun s₃ H₃ => ?_⟩
            clear H'
            repeat walk_at "w"
            rename St _ _ _ _ => H5
            refine r_eq_ints H5 (hA.deeper _) (H5.get (by walk_at "mem")) (H5.get (.head _)) .nil .nil ?_
            exact k _ _ _ H5
end
end Mine
open Mine
set_option maxRecDepth 100000 in
set_option maxHeartbeats 4000000 in
theorem PySem.Challenge.cw_on0165_01_holds : PySem.Challenge.rw_on0165_01.Holds := by
  refine holds_law hk_said fun hsaid => ?_
  refine holds_open (q := Vw) (loose := LO) (Xt := fun s => xlAt Vw [] s && recOk [] s) (XP := XL Vw []) (Yf := Hook.obs HKK) (Ya := Hook.val HKK) (YP := Hook.says HKK) (N := 3632) hk_left (Hook.of HKK) (Hook.keeps HKK) (fun s e => xl_of s (Bool.and_eq_true_iff.mp e).1) XL.keeps (by rfl) (by rfl) (by rfl) (fun s e => recFacts_of (Bool.and_eq_true_iff.mp e).2) (by rfl) hsaid hk_ok hk_bare ?hw ?hc
  case hw => w_witness2
  case hc =>
    intro w s₀ s₁ mg mb G Y fa o pm cd doc dV kV ho hd hcd hD hmg hg args vals as hpre hlay hrd hwl hlo
    have KX := kIn_of Y
    refine Ground.open G ?_
    intro T B D TE TW
    wrow_args hpre hlay hrd hwl hlo
    all_goals (first | refine callC_kw (enter_call ?_) | refine enter_call ?_ | refine callC_kw (enter_callW ?_) | refine enter_callW ?_)
    clear hD hd hcd D TE TW B G Y
    have hfa : fa = 251 := Value.ref.inj (Option.some.inj (hmg.symm.trans (mg_of KX T.g (n_law w))))
    subst hfa
    clear hmg
    rename_i ns _ _ _ _ _ _ _ sa xs _ hL _ _ _ hI _ hn _
    let c : Fix := ⟨w, s₁.heap, mg, mb, s₁⟩
    have OK : c.Ok := ⟨KX, ⟨hk2 w.params, KX 2 _ rfl⟩, topRead_of T⟩
    have H : St c [] [] s₁ := ⟨OK, fun _ _ e => e, fun _ h => (nomatch h), fun _ h => (nomatch h), fun _ h => (nomatch h), List.nodup_nil, rfl, rfl, rfl, fun _ h => (nomatch h), fun _ h => (nomatch h)⟩
    have hlen := hI.length
    refine codeAny_mono (law_spec (c := c) (E := fun _ _ => False) (Q := fun v s' => v = .bool true ∧ (∀ b o, s₁.heap.get? b = some o → s'.heap.get? b = some o) ∧ s'.os = s₁.os ∧ s'.gens = #[]) H ⟨rfl, by decide, by decide⟩ hL hI (by omega) fun Z' W' s' H' => ⟨rfl, H'.keep, H'.os, H'.gens.trans hg⟩) ?_
    rintro r s' z
    rcases r with e | f
    · exact z.elim
    · cases f with
      | ret v =>
        obtain ⟨rfl, h1, h2, h3⟩ := z
        exact GoodW.toG ⟨.inl ⟨_, .bool true, [], rfl, fun _ => rfl, .bool _, by wrow_post, fun _ => ⟨List.nodup_nil, fun _ h => (nomatch h)⟩⟩, h1, h2, h3⟩
      | _ => exact z.elim
