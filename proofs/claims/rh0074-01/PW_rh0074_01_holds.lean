import PyProof.Rows.All
import Wide.All
import OpenK.AllK
import Wide.FinOn
import PySem.Challenge.RW_rh0074_01
open PySem PySem.W PyProof.Rows PySem.Calls
set_option Elab.async false
set_option linter.unusedVariables false
set_option autoImplicit false
namespace Mine
/-! the heap behind the top, written out; the functions' bodies are taken from the row's text -/
abbrev pw : Program := PySem.Challenge.pw_rh0074_01
noncomputable def top_ (i : Nat) : Stmt := pw.main.body.getD i default
noncomputable def meth_ (i j : Nat) : Stmt := match top_ i with
  | .ClassDef _ _ _ body _ _ _ _ _ _ _ => body.getD j default
  | s => s
noncomputable def vS (x : String) (t : Tok) : Value := .str (Str.ofString x) t
noncomputable def dE (P : Params) (x : String) (t : Tok) (v : Value) : DictEntry := { hash := PyData.keyHash P (Str.ofString x), key := .str (Str.ofString x) t, val := v }
noncomputable def oN : Obj := { cls := .none, data := .dict #[] }
noncomputable def oT (l : List Value) : Obj := { cls := .type "tuple", data := .seq l.toArray }
noncomputable def oC (l : List Value) : Obj := { cls := .type "code", data := .fields l.toArray }
noncomputable def oF (n : String) (l : List Value) : Obj := { cls := .type n, data := .fields l.toArray }
noncomputable def oD (l : List DictEntry) (n : Nat) : Obj := { cls := .type "dict", data := .dict l.toArray n }
noncomputable def oK (n : String) (mro : List Value) (ns : Addr) (sl : List (Option Value)) : Obj :=
  { cls := .type "type", data := .cls { name := Str.ofString n, bases := [.type "object"], mro := mro, ns := ns, qualname := Str.ofString n }, slots := sl.toArray }
noncomputable def oU (st : Stmt) (q : String) (pm code : Value) : Obj := match st with
  | .FunctionDef n a b _ _ _ sc _ _ _ => { cls := .type "function", data := .func { name := n, qualname := Str.ofString q, params := a, body := .stmts b, scope := sc, globals := 3, closure := [], defaults := .none, kwdefaults := .none, pyModule := pm, code := code } }
  | _ => default
set_option maxRecDepth 100000 in
noncomputable def KK (P : Params) : Frag := [
  (2, oN),
  (3, oD [dE P "__name__" 165 (vS "law_rh0074_01" 568), dE P "__doc__" 166 .none, dE P "__package__" 167 .none, dE P "__loader__" 168 (.builtin "__main__.__loader__#opaque"), dE P "__spec__" 169 .none, dE P "__annotations__" 170 (.ref 6), dE P "__builtins__" 171 (.ref 4), dE P "__file__" 173 (vS "/claim/cut.py" 172), dE P "__cached__" 174 .none, dE P "_wall" 193 (.ref 21), dE P "KernelClause" 230 (.ref 38), dE P "goal_terms" 238 (.ref 49), dE P "goal_special" 245 (.ref 56), dE P "places_of" 265 (.ref 63), dE P "crosses_call" 277 (.ref 70), dE P "check_plan" 283 (.ref 75), dE P "check_variable" 289 (.ref 80), dE P "first_word" 298 (.ref 87), dE P "check_goals" 316 (.ref 94), dE P "variables" 325 (.ref 101), dE P "variables_of" 336 (.ref 108), dE P "occurrences" 346 (.ref 115), dE P "VarInfo" 386 (.ref 132), dE P "ClausePlan" 464 (.ref 188), dE P "chunk_numbers" 474 (.ref 199), dE P "Survey" 529 (.ref 230), dE P "kind_of" 536 (.ref 241), dE P "slot_order" 547 (.ref 248), dE P "classify" 567 (.ref 255), dE P "_law_coins" 580 (.ref 262), dE P "_law_coin" 588 (.ref 269), dE P "_law_thing" 597 (.ref 276), dE P "_law_things" 603 (.ref 281), dE P "_law_goal" 612 (.ref 288), dE P "_law_say" 622 (.ref 295), dE P "_law_change" 637 (.ref 302), dE P "law" 643 (.ref 307)] 37),
  (15, oT []),
  (17, oT [(vS "k" 190)]),
  (18, oT []),
  (20, oC [(vS "_wall" 187), (vS "_wall" 188), (vS "/claim/cut.py" 189), (.int 1 0), (.int 1 0), (.int 0 0), (.int 0 0), (.int 3 0), (.ref 15), (.bool true), (.int 181 0), (.ref 16), .none, (.ref 17), (.ref 18), (.ref 19), (.int 191 0), (.int 1 0), (vS "/claim/cut.py" 192)]),
  (21, oU (top_ 0) "_wall" (vS "__main__" 164) (.ref 20)),
  (29, oT []),
  (31, oT [(vS "self" 211), (vS "functor" 212), (vS "args" 213), (vS "goals" 214), (vS "count" 215)]),
  (32, oT []),
  (34, oC [(vS "__init__" 208), (vS "KernelClause.__init__" 209), (vS "/claim/cut.py" 210), (.int 7 0), (.int 5 0), (.int 0 0), (.int 0 0), (.int 3 0), (.ref 29), (.bool true), (.int 181 0), (.ref 30), .none, (.ref 31), (.ref 32), (.ref 33), (.int 216 0), (.int 7 0), (vS "/claim/cut.py" 217)]),
  (35, oU (meth_ 2 0) "KernelClause.__init__" (vS "clausemill.kernel" 194) (.ref 34)),
  (36, oT [(vS "args" 219), (vS "count" 220), (vS "functor" 221), (vS "goals" 222)]),
  (37, oD [dE P "__module__" 203 (vS "clausemill.kernel" 194), dE P "__firstlineno__" 207 (.int 5 206), dE P "__init__" 218 (.ref 35), dE P "__static_attributes__" 223 (.ref 36), dE P "__dict__" 225 (.ref 39), dE P "__weakref__" 227 (.ref 40), dE P "__doc__" 228 .none] 4),
  (38, oK "KernelClause" [(.ref 38), (.type "object")] 37 [none, none, some (vS "KernelClause" 196), some (vS "KernelClause" 204), some (.builtin "object.__new__"), some (.bool true)]),
  (39, oF "getset_descriptor" [(vS "__dict__" 224), (.ref 38), (.builtin "function.__dict__"), (.builtin "function.__dict__#set")]),
  (40, oF "getset_descriptor" [(vS "__weakref__" 226), (.ref 38), (.builtin "ExceptionGroup.__weakref__"), .none]),
  (43, oT []),
  (45, oT [(vS "goal" 234), (vS "kind" 235)]),
  (46, oT []),
  (48, oC [(vS "goal_terms" 231), (vS "goal_terms" 232), (vS "/claim/cut.py" 233), (.int 12 0), (.int 1 0), (.int 0 0), (.int 0 0), (.int 3 0), (.ref 43), (.bool true), (.int 181 0), (.ref 44), .none, (.ref 45), (.ref 46), (.ref 47), (.int 236 0), (.int 12 0), (vS "/claim/cut.py" 237)]),
  (49, oU (top_ 3) "goal_terms" (vS "clausemill.kernel" 194) (.ref 48)),
  (50, oT []),
  (52, oT [(vS "goal" 242)]),
  (53, oT []),
  (55, oC [(vS "goal_special" 239), (vS "goal_special" 240), (vS "/claim/cut.py" 241), (.int 19 0), (.int 1 0), (.int 0 0), (.int 0 0), (.int 3 0), (.ref 50), (.bool true), (.int 181 0), (.ref 51), .none, (.ref 52), (.ref 53), (.ref 54), (.int 243 0), (.int 19 0), (vS "/claim/cut.py" 244)]),
  (56, oU (top_ 4) "goal_special" (vS "clausemill.kernel" 194) (.ref 55)),
  (57, oT []),
  (59, oT [(vS "kernel" 251), (vS "places" 252), (vS "rows" 253), (vS "at" 254), (vS "goal" 255), (vS "special" 256), (vS "place" 257), (vS "terms" 258), (vS "stack" 259), (vS "term" 260), (vS "word" 261), (vS "arg" 262)]),
  (60, oT []),
  (62, oC [(vS "places_of" 248), (vS "places_of" 249), (vS "/claim/cut.py" 250), (.int 24 0), (.int 1 0), (.int 0 0), (.int 0 0), (.int 3 0), (.ref 57), (.bool true), (.int 181 0), (.ref 58), .none, (.ref 59), (.ref 60), (.ref 61), (.int 263 0), (.int 24 0), (vS "/claim/cut.py" 264)]),
  (63, oU (top_ 6) "places_of" (vS "clausemill.plancheck" 246) (.ref 62)),
  (64, oT []),
  (66, oT [(vS "kernel" 269), (vS "places" 270), (vS "at" 271), (vS "before" 272), (vS "behind" 273), (vS "place" 274)]),
  (67, oT []),
  (69, oC [(vS "crosses_call" 266), (vS "crosses_call" 267), (vS "/claim/cut.py" 268), (.int 45 0), (.int 2 0), (.int 0 0), (.int 0 0), (.int 3 0), (.ref 64), (.bool true), (.int 181 0), (.ref 65), .none, (.ref 66), (.ref 67), (.ref 68), (.int 275 0), (.int 45 0), (vS "/claim/cut.py" 276)]),
  (70, oU (top_ 7) "crosses_call" (vS "clausemill.plancheck" 246) (.ref 69)),
  (71, oT []),
  (74, oC [(vS "check_plan" 278), (vS "check_plan" 279), (vS "/claim/cut.py" 280), (.int 58 0), (.int 2 0), (.int 0 0), (.int 0 0), (.int 3 0), (.ref 71), (.bool true), (.int 181 0), (.ref 72), .none, .none, .none, (.ref 73), (.int 281 0), (.int 58 0), (vS "/claim/cut.py" 282)]),
  (75, oU (top_ 8) "check_plan" (vS "clausemill.plancheck" 246) (.ref 74)),
  (76, oT []),
  (79, oC [(vS "check_variable" 284), (vS "check_variable" 285), (vS "/claim/cut.py" 286), (.int 79 0), (.int 4 0), (.int 0 0), (.int 0 0), (.int 3 0), (.ref 76), (.bool true), (.int 181 0), (.ref 77), .none, .none, .none, (.ref 78), (.int 287 0), (.int 79 0), (vS "/claim/cut.py" 288)]),
  (80, oU (top_ 9) "check_variable" (vS "clausemill.plancheck" 246) (.ref 79)),
  (81, oT []),
  (83, oT [(vS "places" 293), (vS "best" 294), (vS "place" 295)]),
  (84, oT []),
  (86, oC [(vS "first_word" 290), (vS "first_word" 291), (vS "/claim/cut.py" 292), (.int 94 0), (.int 1 0), (.int 0 0), (.int 0 0), (.int 3 0), (.ref 81), (.bool true), (.int 181 0), (.ref 82), .none, (.ref 83), (.ref 84), (.ref 85), (.int 296 0), (.int 94 0), (vS "/claim/cut.py" 297)]),
  (87, oU (top_ 10) "first_word" (vS "clausemill.plancheck" 246) (.ref 86)),
  (88, oT []),
  (90, oT [(vS "kernel" 302), (vS "plan" 303), (vS "places" 304), (vS "goals" 305), (vS "inner_call" 306), (vS "at" 307), (vS "calls" 308), (vS "before" 309), (vS "k" 310), (vS "info" 311), (vS "used_later" 312), (vS "place" 313)]),
  (91, oT []),
  (93, oC [(vS "check_goals" 299), (vS "check_goals" 300), (vS "/claim/cut.py" 301), (.int 100 0), (.int 3 0), (.int 0 0), (.int 0 0), (.int 3 0), (.ref 88), (.bool true), (.int 181 0), (.ref 89), .none, (.ref 90), (.ref 91), (.ref 92), (.int 314 0), (.int 100 0), (vS "/claim/cut.py" 315)]),
  (94, oU (top_ 11) "check_goals" (vS "clausemill.plancheck" 246) (.ref 93)),
  (95, oT []),
  (97, oT [(vS "term" 322)]),
  (98, oT []),
  (100, oC [(vS "variables" 319), (vS "variables" 320), (vS "/claim/cut.py" 321), (.int 127 0), (.int 1 0), (.int 0 0), (.int 0 0), (.int 3 0), (.ref 95), (.bool true), (.int 181 0), (.ref 96), .none, (.ref 97), (.ref 98), (.ref 99), (.int 323 0), (.int 127 0), (vS "/claim/cut.py" 324)]),
  (101, oU (top_ 13) "variables" (vS "clausemill.terms" 317) (.ref 100)),
  (102, oT []),
  (104, oT [(vS "terms" 329), (vS "seen" 330), (vS "result" 331), (vS "todo" 332), (vS "term" 333)]),
  (105, oT []),
  (107, oC [(vS "variables_of" 326), (vS "variables_of" 327), (vS "/claim/cut.py" 328), (.int 129 0), (.int 1 0), (.int 0 0), (.int 0 0), (.int 3 0), (.ref 102), (.bool true), (.int 181 0), (.ref 103), .none, (.ref 104), (.ref 105), (.ref 106), (.int 334 0), (.int 129 0), (vS "/claim/cut.py" 335)]),
  (108, oU (top_ 14) "variables_of" (vS "clausemill.terms" 317) (.ref 107)),
  (109, oT []),
  (111, oT [(vS "term" 340), (vS "counts" 341), (vS "todo" 342), (vS "part" 343)]),
  (112, oT []),
  (114, oC [(vS "occurrences" 337), (vS "occurrences" 338), (vS "/claim/cut.py" 339), (.int 142 0), (.int 1 0), (.int 0 0), (.int 0 0), (.int 3 0), (.ref 109), (.bool true), (.int 181 0), (.ref 110), .none, (.ref 111), (.ref 112), (.ref 113), (.int 344 0), (.int 142 0), (vS "/claim/cut.py" 345)]),
  (115, oU (top_ 15) "occurrences" (vS "clausemill.terms" 317) (.ref 114)),
  (123, oT []),
  (125, oT [(vS "self" 364), (vS "k" 365), (vS "first" 366)]),
  (126, oT []),
  (128, oC [(vS "__init__" 361), (vS "VarInfo.__init__" 362), (vS "/claim/cut.py" 363), (.int 155 0), (.int 3 0), (.int 0 0), (.int 0 0), (.int 3 0), (.ref 123), (.bool true), (.int 181 0), (.ref 124), .none, (.ref 125), (.ref 126), (.ref 127), (.int 367 0), (.int 155 0), (vS "/claim/cut.py" 368)]),
  (129, oU (meth_ 17 0) "VarInfo.__init__" (vS "clausemill.classify" 347) (.ref 128)),
  (130, oT [(vS "count" 370), (vS "first" 371), (vS "first_chunk" 372), (vS "kind" 373), (vS "last_chunk" 374), (vS "last_goal" 375), (vS "slot" 376), (vS "unsafe" 377), (vS "var" 378)]),
  (131, oD [dE P "__module__" 356 (vS "clausemill.classify" 347), dE P "__firstlineno__" 360 (.int 153 359), dE P "__init__" 369 (.ref 129), dE P "__static_attributes__" 379 (.ref 130), dE P "__dict__" 381 (.ref 133), dE P "__weakref__" 383 (.ref 134), dE P "__doc__" 384 .none] 4),
  (132, oK "VarInfo" [(.ref 132), (.type "object")] 131 [none, none, some (vS "VarInfo" 349), some (vS "VarInfo" 357), some (.builtin "object.__new__"), some (.bool true)]),
  (133, oF "getset_descriptor" [(vS "__dict__" 380), (.ref 132), (.builtin "function.__dict__"), (.builtin "function.__dict__#set")]),
  (134, oF "getset_descriptor" [(vS "__weakref__" 382), (.ref 132), (.builtin "ExceptionGroup.__weakref__"), .none]),
  (144, oT []),
  (146, oT [(vS "self" 402), (vS "infos" 403), (vS "chunks" 404), (vS "needs_env" 405), (vS "env_size" 406), (vS "live_after" 407)]),
  (147, oT []),
  (149, oC [(vS "__init__" 399), (vS "ClausePlan.__init__" 400), (vS "/claim/cut.py" 401), (.int 167 0), (.int 6 0), (.int 0 0), (.int 0 0), (.int 3 0), (.ref 144), (.bool true), (.int 181 0), (.ref 145), .none, (.ref 146), (.ref 147), (.ref 148), (.int 408 0), (.int 167 0), (vS "/claim/cut.py" 409)]),
  (150, oU (meth_ 18 0) "ClausePlan.__init__" (vS "clausemill.classify" 347) (.ref 149)),
  (151, oT []),
  (153, oT [(vS "self" 414), (vS "k" 415)]),
  (154, oT []),
  (156, oC [(vS "info" 411), (vS "ClausePlan.info" 412), (vS "/claim/cut.py" 413), (.int 174 0), (.int 2 0), (.int 0 0), (.int 0 0), (.int 3 0), (.ref 151), (.bool true), (.int 181 0), (.ref 152), .none, (.ref 153), (.ref 154), (.ref 155), (.int 416 0), (.int 174 0), (vS "/claim/cut.py" 417)]),
  (157, oU (meth_ 18 1) "ClausePlan.info" (vS "clausemill.classify" 347) (.ref 156)),
  (158, oT []),
  (160, oT [(vS "self" 422), (vS "k" 423)]),
  (161, oT []),
  (163, oC [(vS "is_perm" 419), (vS "ClausePlan.is_perm" 420), (vS "/claim/cut.py" 421), (.int 177 0), (.int 2 0), (.int 0 0), (.int 0 0), (.int 3 0), (.ref 158), (.bool true), (.int 181 0), (.ref 159), .none, (.ref 160), (.ref 161), (.ref 162), (.int 424 0), (.int 177 0), (vS "/claim/cut.py" 425)]),
  (164, oU (meth_ 18 2) "ClausePlan.is_perm" (vS "clausemill.classify" 347) (.ref 163)),
  (165, oT []),
  (167, oT [(vS "self" 430), (vS "k" 431)]),
  (168, oT []),
  (170, oC [(vS "is_void" 427), (vS "ClausePlan.is_void" 428), (vS "/claim/cut.py" 429), (.int 180 0), (.int 2 0), (.int 0 0), (.int 0 0), (.int 3 0), (.ref 165), (.bool true), (.int 181 0), (.ref 166), .none, (.ref 167), (.ref 168), (.ref 169), (.int 432 0), (.int 180 0), (vS "/claim/cut.py" 433)]),
  (171, oU (meth_ 18 3) "ClausePlan.is_void" (vS "clausemill.classify" 347) (.ref 170)),
  (172, oT []),
  (174, oT [(vS "self" 438), (vS "found" 439), (vS "k" 440)]),
  (175, oT []),
  (177, oC [(vS "perms" 435), (vS "ClausePlan.perms" 436), (vS "/claim/cut.py" 437), (.int 183 0), (.int 1 0), (.int 0 0), (.int 0 0), (.int 3 0), (.ref 172), (.bool true), (.int 181 0), (.ref 173), .none, (.ref 174), (.ref 175), (.ref 176), (.int 441 0), (.int 183 0), (vS "/claim/cut.py" 442)]),
  (178, oU (meth_ 18 4) "ClausePlan.perms" (vS "clausemill.classify" 347) (.ref 177)),
  (179, oT []),
  (181, oT [(vS "self" 447), (vS "goal" 448)]),
  (182, oT []),
  (184, oC [(vS "dying_at" 444), (vS "ClausePlan.dying_at" 445), (vS "/claim/cut.py" 446), (.int 190 0), (.int 2 0), (.int 0 0), (.int 0 0), (.int 3 0), (.ref 179), (.bool true), (.int 181 0), (.ref 180), .none, (.ref 181), (.ref 182), (.ref 183), (.int 449 0), (.int 190 0), (vS "/claim/cut.py" 450)]),
  (185, oU (meth_ 18 5) "ClausePlan.dying_at" (vS "clausemill.classify" 347) (.ref 184)),
  (186, oT [(vS "chunks" 452), (vS "env_size" 453), (vS "infos" 454), (vS "live_after" 455), (vS "needs_env" 456)]),
  (187, oD [dE P "__module__" 394 (vS "clausemill.classify" 347), dE P "__firstlineno__" 398 (.int 165 397), dE P "__init__" 410 (.ref 150), dE P "info" 418 (.ref 157), dE P "is_perm" 426 (.ref 164), dE P "is_void" 434 (.ref 171), dE P "perms" 443 (.ref 178), dE P "dying_at" 451 (.ref 185), dE P "__static_attributes__" 457 (.ref 186), dE P "__dict__" 459 (.ref 189), dE P "__weakref__" 461 (.ref 190), dE P "__doc__" 462 .none] 4),
  (188, oK "ClausePlan" [(.ref 188), (.type "object")] 187 [none, none, some (vS "ClausePlan" 387), some (vS "ClausePlan" 395), some (.builtin "object.__new__"), some (.bool true)]),
  (189, oF "getset_descriptor" [(vS "__dict__" 458), (.ref 188), (.builtin "function.__dict__"), (.builtin "function.__dict__#set")]),
  (190, oF "getset_descriptor" [(vS "__weakref__" 460), (.ref 188), (.builtin "ExceptionGroup.__weakref__"), .none]),
  (193, oT []),
  (195, oT [(vS "goals" 468), (vS "chunks" 469), (vS "chunk" 470), (vS "goal" 471)]),
  (196, oT []),
  (198, oC [(vS "chunk_numbers" 465), (vS "chunk_numbers" 466), (vS "/claim/cut.py" 467), (.int 192 0), (.int 1 0), (.int 0 0), (.int 0 0), (.int 3 0), (.ref 193), (.bool true), (.int 181 0), (.ref 194), .none, (.ref 195), (.ref 196), (.ref 197), (.int 472 0), (.int 192 0), (vS "/claim/cut.py" 473)]),
  (199, oU (top_ 19) "chunk_numbers" (vS "clausemill.classify" 347) (.ref 198)),
  (207, oT []),
  (209, oT [(vS "self" 490)]),
  (210, oT []),
  (212, oC [(vS "__init__" 487), (vS "Survey.__init__" 488), (vS "/claim/cut.py" 489), (.int 202 0), (.int 1 0), (.int 0 0), (.int 0 0), (.int 3 0), (.ref 207), (.bool true), (.int 181 0), (.ref 208), .none, (.ref 209), (.ref 210), (.ref 211), (.int 491 0), (.int 202 0), (vS "/claim/cut.py" 492)]),
  (213, oU (meth_ 20 0) "Survey.__init__" (vS "clausemill.classify" 347) (.ref 212)),
  (214, oT []),
  (216, oT [(vS "self" 497), (vS "k" 498), (vS "first" 499), (vS "goal" 500), (vS "chunk" 501), (vS "count" 502), (vS "info" 503)]),
  (217, oT []),
  (219, oC [(vS "meet" 494), (vS "Survey.meet" 495), (vS "/claim/cut.py" 496), (.int 205 0), (.int 6 0), (.int 0 0), (.int 0 0), (.int 3 0), (.ref 214), (.bool true), (.int 181 0), (.ref 215), .none, (.ref 216), (.ref 217), (.ref 218), (.int 504 0), (.int 205 0), (vS "/claim/cut.py" 505)]),
  (220, oU (meth_ 20 1) "Survey.meet" (vS "clausemill.classify" 347) (.ref 219)),
  (221, oT []),
  (223, oT [(vS "self" 510), (vS "terms" 511), (vS "place" 512), (vS "goal" 513), (vS "chunk" 514), (vS "term" 515), (vS "counts" 516), (vS "k" 517)]),
  (224, oT []),
  (226, oC [(vS "terms" 507), (vS "Survey.terms" 508), (vS "/claim/cut.py" 509), (.int 214 0), (.int 5 0), (.int 0 0), (.int 0 0), (.int 3 0), (.ref 221), (.bool true), (.int 181 0), (.ref 222), .none, (.ref 223), (.ref 224), (.ref 225), (.int 518 0), (.int 214 0), (vS "/claim/cut.py" 519)]),
  (227, oU (meth_ 20 2) "Survey.terms" (vS "clausemill.classify" 347) (.ref 226)),
  (228, oT [(vS "infos" 521)]),
  (229, oD [dE P "__module__" 482 (vS "clausemill.classify" 347), dE P "__firstlineno__" 486 (.int 200 485), dE P "__init__" 493 (.ref 213), dE P "meet" 506 (.ref 220), dE P "terms" 520 (.ref 227), dE P "__static_attributes__" 522 (.ref 228), dE P "__dict__" 524 (.ref 231), dE P "__weakref__" 526 (.ref 232), dE P "__doc__" 527 .none] 4),
  (230, oK "Survey" [(.ref 230), (.type "object")] 229 [none, none, some (vS "Survey" 475), some (vS "Survey" 483), some (.builtin "object.__new__"), some (.bool true)]),
  (231, oF "getset_descriptor" [(vS "__dict__" 523), (.ref 230), (.builtin "function.__dict__"), (.builtin "function.__dict__#set")]),
  (232, oF "getset_descriptor" [(vS "__weakref__" 525), (.ref 230), (.builtin "ExceptionGroup.__weakref__"), .none]),
  (235, oT []),
  (237, oT [(vS "info" 533)]),
  (238, oT []),
  (240, oC [(vS "kind_of" 530), (vS "kind_of" 531), (vS "/claim/cut.py" 532), (.int 222 0), (.int 1 0), (.int 0 0), (.int 0 0), (.int 3 0), (.ref 235), (.bool true), (.int 181 0), (.ref 236), .none, (.ref 237), (.ref 238), (.ref 239), (.int 534 0), (.int 222 0), (vS "/claim/cut.py" 535)]),
  (241, oU (top_ 21) "kind_of" (vS "clausemill.classify" 347) (.ref 240)),
  (242, oT []),
  (244, oT [(vS "infos" 540), (vS "order" 541), (vS "k" 542), (vS "info" 543), (vS "at" 544)]),
  (245, oT []),
  (247, oC [(vS "slot_order" 537), (vS "slot_order" 538), (vS "/claim/cut.py" 539), (.int 228 0), (.int 1 0), (.int 0 0), (.int 0 0), (.int 3 0), (.ref 242), (.bool true), (.int 181 0), (.ref 243), .none, (.ref 244), (.ref 245), (.ref 246), (.int 545 0), (.int 228 0), (vS "/claim/cut.py" 546)]),
  (248, oU (top_ 22) "slot_order" (vS "clausemill.classify" 347) (.ref 247)),
  (249, oT []),
  (251, oT [(vS "kernel" 551), (vS "goals" 552), (vS "chunks" 553), (vS "survey" 554), (vS "needs_env" 555), (vS "at" 556), (vS "goal" 557), (vS "special" 558), (vS "infos" 559), (vS "k" 560), (vS "order" 561), (vS "info" 562), (vS "live_after" 563), (vS "live" 564)]),
  (252, oT []),
  (254, oC [(vS "classify" 548), (vS "classify" 549), (vS "/claim/cut.py" 550), (.int 238 0), (.int 1 0), (.int 0 0), (.int 0 0), (.int 3 0), (.ref 249), (.bool true), (.int 181 0), (.ref 250), .none, (.ref 251), (.ref 252), (.ref 253), (.int 565 0), (.int 238 0), (vS "/claim/cut.py" 566)]),
  (255, oU (top_ 23) "classify" (vS "clausemill.classify" 347) (.ref 254)),
  (256, oT []),
  (258, oT [(vS "script" 573), (vS "coins" 574), (vS "cell" 575), (vS "left" 576), (vS "lap" 577)]),
  (259, oT []),
  (261, oC [(vS "_law_coins" 570), (vS "_law_coins" 571), (vS "/claim/cut.py" 572), (.int 268 0), (.int 1 0), (.int 0 0), (.int 0 0), (.int 3 0), (.ref 256), (.bool true), (.int 181 0), (.ref 257), .none, (.ref 258), (.ref 259), (.ref 260), (.int 578 0), (.int 268 0), (vS "/claim/cut.py" 579)]),
  (262, oU (top_ 25) "_law_coins" (vS "law_rh0074_01" 568) (.ref 261)),
  (263, oT []),
  (265, oT [(vS "coins" 584), (vS "sides" 585)]),
  (266, oT []),
  (268, oC [(vS "_law_coin" 581), (vS "_law_coin" 582), (vS "/claim/cut.py" 583), (.int 281 0), (.int 2 0), (.int 0 0), (.int 0 0), (.int 3 0), (.ref 263), (.bool true), (.int 181 0), (.ref 264), .none, (.ref 265), (.ref 266), (.ref 267), (.int 586 0), (.int 281 0), (vS "/claim/cut.py" 587)]),
  (269, oU (top_ 26) "_law_coin" (vS "law_rh0074_01" 568) (.ref 268)),
  (270, oT []),
  (272, oT [(vS "coins" 592), (vS "deep" 593), (vS "way" 594)]),
  (273, oT []),
  (275, oC [(vS "_law_thing" 589), (vS "_law_thing" 590), (vS "/claim/cut.py" 591), (.int 283 0), (.int 2 0), (.int 0 0), (.int 0 0), (.int 3 0), (.ref 270), (.bool true), (.int 181 0), (.ref 271), .none, (.ref 272), (.ref 273), (.ref 274), (.int 595 0), (.int 283 0), (vS "/claim/cut.py" 596)]),
  (276, oU (top_ 27) "_law_thing" (vS "law_rh0074_01" 568) (.ref 275)),
  (277, oT []),
  (280, oC [(vS "_law_things" 598), (vS "_law_things" 599), (vS "/claim/cut.py" 600), (.int 290 0), (.int 1 0), (.int 0 0), (.int 0 0), (.int 3 0), (.ref 277), (.bool true), (.int 181 0), (.ref 278), .none, .none, .none, (.ref 279), (.int 601 0), (.int 290 0), (vS "/claim/cut.py" 602)]),
  (281, oU (top_ 28) "_law_things" (vS "law_rh0074_01" 568) (.ref 280)),
  (282, oT []),
  (284, oT [(vS "coins" 607), (vS "way" 608), (vS "side" 609)]),
  (285, oT []),
  (287, oC [(vS "_law_goal" 604), (vS "_law_goal" 605), (vS "/claim/cut.py" 606), (.int 292 0), (.int 1 0), (.int 0 0), (.int 0 0), (.int 3 0), (.ref 282), (.bool true), (.int 181 0), (.ref 283), .none, (.ref 284), (.ref 285), (.ref 286), (.int 610 0), (.int 292 0), (vS "/claim/cut.py" 611)]),
  (288, oU (top_ 29) "_law_goal" (vS "law_rh0074_01" 568) (.ref 287)),
  (289, oT []),
  (291, oT [(vS "plan" 616), (vS "rows" 617), (vS "number" 618), (vS "info" 619)]),
  (292, oT []),
  (294, oC [(vS "_law_say" 613), (vS "_law_say" 614), (vS "/claim/cut.py" 615), (.int 302 0), (.int 1 0), (.int 0 0), (.int 0 0), (.int 3 0), (.ref 289), (.bool true), (.int 181 0), (.ref 290), .none, (.ref 291), (.ref 292), (.ref 293), (.int 620 0), (.int 302 0), (vS "/claim/cut.py" 621)]),
  (295, oU (top_ 30) "_law_say" (vS "law_rh0074_01" 568) (.ref 294)),
  (296, oT []),
  (298, oT [(vS "coins" 626), (vS "plan" 627), (vS "way" 628), (vS "numbers" 629), (vS "at" 630), (vS "value" 631), (vS "info" 632), (vS "other" 633), (vS "kept" 634)]),
  (299, oT []),
  (301, oC [(vS "_law_change" 623), (vS "_law_change" 624), (vS "/claim/cut.py" 625), (.int 308 0), (.int 2 0), (.int 0 0), (.int 0 0), (.int 3 0), (.ref 296), (.bool true), (.int 181 0), (.ref 297), .none, (.ref 298), (.ref 299), (.ref 300), (.int 635 0), (.int 308 0), (vS "/claim/cut.py" 636)]),
  (302, oU (top_ 31) "_law_change" (vS "law_rh0074_01" 568) (.ref 301)),
  (303, oT []),
  (306, oC [(vS "law" 638), (vS "law" 639), (vS "/claim/cut.py" 640), (.int 342 0), (.int 1 0), (.int 0 0), (.int 0 0), (.int 3 0), (.ref 303), (.bool true), (.int 181 0), (.ref 304), .none, .none, .none, (.ref 305), (.int 641 0), (.int 342 0), (vS "/claim/cut.py" 642)]),
  (307, oU (top_ 32) "law" (vS "law_rh0074_01" 568) (.ref 306))]
end Mine
namespace Mine
/-! the head by hand: one run of the top in the kernel, seen by a view that holds the law's def alone -/
noncomputable def vw : Program := { pw with main := { pw.main with body := [top_ 32] } }
noncomputable def nameAt : Stmt → List Str
  | .FunctionDef n _ _ _ _ _ _ _ _ _ => [n]
  | .ClassDef n _ _ _ _ _ _ _ _ _ _ => [n]
  | _ => []
set_option maxRecDepth 100000
noncomputable def lse : List Str := (pw.main.body.take 32).flatMap nameAt
noncomputable def asK : List Addr := [2, 3, 15, 17, 18, 20, 21, 29, 31, 32, 34, 35, 36, 37, 38, 39, 40, 43, 45, 46, 48, 49, 50, 52, 53, 55, 56, 57, 59, 60, 62, 63, 64, 66, 67, 69, 70, 71, 74, 75, 76, 79, 80, 81, 83, 84, 86, 87, 88, 90, 91, 93, 94, 95, 97, 98, 100, 101, 102, 104, 105, 107, 108, 109, 111, 112, 114, 115, 123, 125, 126, 128, 129, 130, 131, 132, 133, 134, 144, 146, 147, 149, 150, 151, 153, 154, 156, 157, 158, 160, 161, 163, 164, 165, 167, 168, 170, 171, 172, 174, 175, 177, 178, 179, 181, 182, 184, 185, 186, 187, 188, 189, 190, 193, 195, 196, 198, 199, 207, 209, 210, 212, 213, 214, 216, 217, 219, 220, 221, 223, 224, 226, 227, 228, 229, 230, 231, 232, 235, 237, 238, 240, 241, 242, 244, 245, 247, 248, 249, 251, 252, 254, 255, 256, 258, 259, 261, 262, 263, 265, 266, 268, 269, 270, 272, 273, 275, 276, 277, 280, 281, 282, 284, 285, 287, 288, 289, 291, 292, 294, 295, 296, 298, 299, 301, 302, 303, 306, 307]
theorem asK_eq (P : Params) : asK = (KK P).map (·.1) := by kernel_rfl
noncomputable abbrev hookK : Hook := kHook KK asK asK_eq
noncomputable def lawR : DefRec := match top_ 32 with
  | .FunctionDef n a b _ _ _ sc _ _ p => ⟨n, a, b, sc, p⟩
  | _ => ⟨Str.ofString "", { posonlyargs := [], args := [], vararg := none, kwonlyargs := [], kw_defaults := [], kwarg := none, defaults := [] }, [], pw.main.scope, { line := 0, col := 0, endLine := 0, endCol := 0 }⟩
theorem lawR_eq : defOf vw PySem.Challenge.rw_rh0074_01.row.name = some (lawR, []) := by kernel_rfl
theorem said : PySem.Challenge.rw_rh0074_01.wellSaid = true := by
  rw [PySem.W.Fast.te9446332074065402090]
  kernel_rfl
theorem boot_o : opening pw = plainProg pw.main.scope.names := by kernel_rfl
theorem fence_o (s : Shared) : fenceModules? pw s = some s := by kernel_rfl
theorem boot_ns (w : World) (os : OsState) : ((Shared.mk (boot_heap w.params) (Array.mk []) boot_drawn boot_toks os).heap.isNs mainGlobals && (Shared.mk (boot_heap w.params) (Array.mk []) boot_drawn boot_toks os).gens.size == 0) = true := by kernel_rfl
/-- the top's run, from the booted heap of the library, by the library's quick twins of the run and of the look -/
theorem top_ran (w : World) (os : OsState) : (topFrom treeTable pw w 4030 ⟨boot_heap w.params, Array.mk [], boot_drawn, boot_toks, os⟩).map (fun s => (openSeen vw lse (importedModules pw.main.body) (fun s => xlAt vw [] s && recOk (RowW.records PySem.Challenge.rw_rh0074_01.row.toRowW) s) true s, hookK.obs s)) = some (openGood vw lse, hookK.val w) := by
  unfold topFrom
  rw [boot_ns, PySem.W.Fast.te14082659384304107361, PySem.W.Fast.te14364793385576792824, PySem.W.Fast.te4187177175401517315]
  kernel_rfl
theorem left : LeftO pw vw lse (fun s => xlAt vw [] s && recOk (RowW.records PySem.Challenge.rw_rh0074_01.row.toRowW) s) hookK.obs hookK.val 4030 := fun w => by
  obtain ⟨s, hs, hv⟩ := Option.map_eq_some_iff.mp (boot_open (N := 4030) boot_o (by kernel_rfl) fence_o w)
  unfold openEnds
  rw [hs]
  obtain ⟨h, g, d, t, os⟩ := s
  simp only [Prod.mk.injEq] at hv
  obtain ⟨rfl, rfl, rfl, rfl⟩ := hv
  exact top_ran w os
theorem hd (call : WalkO vw lse (XL vw []) hookK.says PySem.Challenge.rw_rh0074_01.row.toRowW lawR [] fun f vs => PySem.call f vs) : PySem.Challenge.rw_rh0074_01.Holds :=
  holds_law said fun h => holds_open (q := vw) (loose := lse) (Xt := fun s => xlAt vw [] s && recOk (RowW.records PySem.Challenge.rw_rh0074_01.row.toRowW) s) (XP := XL vw []) (Yf := hookK.obs) (Ya := hookK.val) (YP := hookK.says) (N := 4030)
    left hookK.of hookK.keeps (fun s e => xl_of s (Bool.and_eq_true_iff.mp e).1) XL.keeps lawR_eq (by kernel_rfl) (by kernel_rfl) (fun s e => recFacts_of (Bool.and_eq_true_iff.mp e).2) (by rfl) h (by decide +kernel) ⟨rfl, rfl, rfl, rfl, rfl, by decide +kernel⟩
    ⟨[ofPy (.list [])], by decide +kernel, by decide +kernel⟩ call
theorem law_name : lawR.name = Str.ofString "law" := by kernel_rfl
theorem vw_imports : PyProof.Rows.importsNone vw = true := by kernel_rfl
end Mine
namespace Mine


/-- what is fixed over the whole call of the law -/
structure Wd where
  w : World
  h₁ : Heap
  os : OsState
  mg : Str → Option Value
  mb : Str → Option Value
  KX : (KK w.params).In h₁
  g : h₁.Ns mainGlobals mg
  b : h₁.Ns builtinsNs mb
  bb : ∀ x : Str, x ≠ "__name__" → mb x = bootBuiltins x
  nolimit : h₁.NoLimit
  sysm : ∃ mm, h₁.Ns sysModules mm

/-- tokens erased -/
noncomputable def er : Value → Value
  | .int i _ => .int i 0
  | .str s _ => .str s 0
  | .float b _ => .float b 0
  | .bytes b _ => .bytes b 0
  | v => v

theorem er_int {v : Value} {i : Int} {t} (h : er v = .int i t) : ∃ u, v = .int i u := by
  cases v <;> simp [er] at h; exact ⟨_, by rw [h.1]⟩
theorem er_str {v : Value} {i : Str} {t} (h : er v = .str i t) : ∃ u, v = .str i u := by
  cases v <;> simp [er] at h; exact ⟨_, by rw [h.1]⟩
theorem er_ref {v : Value} {a : Addr} (h : er v = .ref a) : v = .ref a := by cases v <;> simp [er] at h; rw [h]
theorem er_bool {v : Value} {b : Bool} (h : er v = .bool b) : v = .bool b := by cases v <;> simp [er] at h; rw [h]
theorem er_none {v : Value} (h : er v = .none) : v = .none := by cases v <;> simp [er] at h; rfl
theorem er_builtin {v : Value} {i : String} (h : er v = .builtin i) : v = .builtin i := by cases v <;> simp [er] at h; rw [h]
theorem er_type {v : Value} {i : String} (h : er v = .type i) : v = .type i := by cases v <;> simp [er] at h; rw [h]
@[simp] theorem er_er (v : Value) : er (er v) = er v := by cases v <;> rfl

noncomputable def erF : Flow → Flow
  | .ret v => .ret (er v)
  | f => f
noncomputable def erO : Option Value → Option Value
  | some v => some (er v)
  | none => none

/-- abstract objects; the values within are erased -/
inductive AObj where
  | list (vs : List Value)
  | tup (vs : List Value)
  | dict (kvs : List (Int × Value)) (ep : Nat)
  | inst (C : Addr) (fs : List (Str × Value))
  | cell (v : Option Value)
  | raw (o : Obj)

abbrev PH := Addr → Option AObj
abbrev Loc := Str → Option Value

noncomputable def PH.set (S : PH) (a : Addr) (x : AObj) : PH := fun b => if b = a then some x else S b
noncomputable def Loc.set (m : Loc) (n : Str) (v : Value) : Loc := fun y => if y = n then some v else m y
abbrev OH := Addr → Option Obj
noncomputable def OH.set (S : OH) (a : Addr) (x : Obj) : OH := fun b => if b = a then some x else S b

@[simp] theorem PH.set_same (S : PH) (a : Addr) (x : AObj) : S.set a x a = some x := by simp [PH.set]
theorem PH.set_ne {S : PH} {a b : Addr} {x : AObj} (h : b ≠ a) : S.set a x b = S b := by simp [PH.set, h]
theorem PH.keep_new {S : PH} {e c : Addr} {x y : AObj} (he : S e = none) (hc : S c = some x) : S.set e y c = some x := by
  rw [PH.set_ne (by rintro rfl; rw [he] at hc; cases hc)]; exact hc
theorem PH.none_new {S : PH} {e c : Addr} {y : AObj} (he : S c = none) (hne : c ≠ e) : S.set e y c = none := by rw [PH.set_ne hne]; exact he
theorem PH.keep_diff {S : PH} {b c : Addr} {x x' y : AObj} (hc : S c = some x) (hb : S b = some y) (h : y ≠ x) : S.set c x' b = some y := by
  rw [PH.set_ne (by rintro rfl; rw [hc] at hb; cases hb; exact h rfl)]; exact hb
theorem PH.drop_new {S : PH} {e : Addr} {y : AObj} (he : S e = none) : ∀ a x, S a = some x → S.set e y a = some x := fun a x h => PH.keep_new he h
theorem PH.ne_some {S : PH} {a b : Addr} {x : AObj} (ha : S a = none) (hb : S b = some x) : b ≠ a := by rintro rfl; rw [ha] at hb; cases hb
theorem PH.ne_diff {S : PH} {a b : Addr} {x y : AObj} (ha : S a = some x) (hb : S b = some y) (h : y ≠ x) : b ≠ a := by rintro rfl; rw [ha] at hb; cases hb; exact h rfl
@[simp] theorem Loc.set_same (m : Loc) (n : Str) (v : Value) : m.set n v n = some v := by simp [Loc.set]
theorem Loc.set_ne {m : Loc} {n y : Str} {v : Value} (h : y ≠ n) : m.set n v y = m y := by simp [Loc.set, h]
@[simp] theorem OH.set_same (S : OH) (a : Addr) (x : Obj) : S.set a x a = some x := by simp [OH.set]
theorem OH.set_ne {S : OH} {a b : Addr} {x : Obj} (h : b ≠ a) : S.set a x b = S b := by simp [OH.set, h]

/-- the entries of an object's own dict say the fields -/
noncomputable def FRep : List (Str × Value) → List DictEntry → Prop
  | [], [] => True
  | f :: fs, e :: es => (∃ t, e.key = .str f.1 t) ∧ er e.val = f.2 ∧ FRep fs es
  | _, _ => False

noncomputable def ORep (w : World) : AObj → Obj → Prop
  | .list vs, o => ∃ us n, o = { cls := .type "list", data := .seq us n } ∧ us.toList.map er = vs
  | .tup vs, o => ∃ us n, o = { cls := .type "tuple", data := .seq us n } ∧ us.toList.map er = vs
  | .dict kvs ep, o => ∃ kvs' es, (o.ExactDict ∧ o.data = .dict es ep ∧ KeysOf (intKind pw w) es ∧ Pairs (intKind pw w) es.toList kvs' ∧ (kvs'.map (·.1)).Nodup) ∧ kvs'.map (fun p => (p.1, er p.2)) = kvs
  | .inst C _, o => ∃ dx, o = instObj C dx
  | .cell v, o => ∃ u, o.data = .cell u ∧ erO u = v
  | .raw x, o => o = x

noncomputable def AObj.isInst : AObj → Bool
  | .inst .. => true
  | _ => false

/-- objects of classes, each with a dict object of its own at δ -/
noncomputable def Dicts (base : OH) (S : PH) (h : Heap) (δ : Addr → Addr) : Prop :=
  ∀ a C fs, S a = some (.inst C fs) → h.get? a = some (instObj C (δ a)) ∧ (∃ es n, h.get? (δ a) = some (dictOf es n) ∧ FRep fs es) ∧
    base (δ a) = none ∧ S (δ a) = none ∧ ∀ a' C' fs', S a' = some (.inst C' fs') → δ a' = δ a → a' = a

/-- the heap bears base (which stays) and S (the objects that the call has made and may change) -/
structure AtC (D : Wd) (base : OH) (S : PH) (s : Shared) : Prop where
  keep : ∀ a o, base a = some o → s.heap.get? a = some o
  here : ∀ a x, S a = some x → ∃ o, s.heap.get? a = some o ∧ ORep D.w x o
  new : ∀ a x, S a = some x → base a = none
  dicts : ∃ δ, Dicts base S s.heap δ
  gens : s.gens = #[]
  os : s.os = D.os

noncomputable def ONs (o : Obj) (m : Loc) : Prop := ∃ es ep, o.data = .dict es ep ∧ StrKeys es ∧ ∃ m' : Str → Option Value, (∀ name, nsFind es name = m' name) ∧ ∀ x, (m' x).map er = m x

/-- a frame at L with the locals m besides -/
noncomputable def At (D : Wd) (base : OH) (L : Addr) (S : PH) (m : Loc) (s : Shared) : Prop :=
  base L = none ∧ ∃ oL, AtC D (base.set L oL) S s ∧ ONs oL m

noncomputable def Base (D : Wd) (base : OH) : Prop := ∀ a o, D.h₁.get? a = some o → base a = some o

noncomputable def Ok (n : Nat) (A : Around) : Prop := A.handled = none ∧ A.depth + 2 * n < 1000 ∧ A.units + 20 * n + 100 < 9900

/-- the transformer -/
noncomputable def W {α : Type} (D : Wd) (n : Nat) (L : Addr) (t : Sem α) (S : PH) (m : Loc) (Q : α → PH → Loc → Prop) : Prop :=
  ∀ base A s, Ok n A → Base D base → At D base L S m s → wpAny (model pw D.w) A t (fun v s' => ∃ S' m', At D base L S' m' s' ∧ Q v S' m') (fun _ _ => False) s

/-- of a tree that gives a value: the post is over the erased value -/
abbrev EV (D : Wd) (n : Nat) (L : Addr) (t : Sem Value) (S : PH) (m : Loc) (Q : Value → PH → Loc → Prop) : Prop := W D n L t S m (fun v => Q (er v))
abbrev EX (D : Wd) (n : Nat) (L : Addr) (t : Sem Flow) (S : PH) (m : Loc) (Q : Flow → PH → Loc → Prop) : Prop := W D n L t S m (fun v => Q (erF v))

/-- a call of f: no frame of the caller's in sight -/
noncomputable def CallC (D : Wd) (n : Nat) (f : Value) (args : List Value) (S : PH) (Q : Value → PH → Prop) : Prop :=
  ∀ base A s args', Ok n A → Base D base → AtC D base S s → args'.map er = args →
    codeAny (model pw D.w) A (.call f ⟨args', []⟩) (fun r s' => ∃ v S', r = .ok (.ret v) ∧ AtC D base S' s' ∧ Q (er v) S') s

theorem W.go {α : Type} {D : Wd} {n : Nat} {L : Addr} {t : Sem α} {S : PH} {m : Loc} {Q : α → PH → Loc → Prop} {base : OH} {A : Around} {s : Shared} {P : α → Shared → Prop} {E : Value → Shared → Prop} (h : W D n L t S m Q) (o : Ok n A) (Bs : Base D base)
    (X : At D base L S m s) (k : ∀ v s' S' m', At D base L S' m' s' → Q v S' m' → P v s') : wpAny (model pw D.w) A t P E s := by
  refine wpAny_mono (h base A s o Bs X) (fun v s' z => ?_) fun _ _ e => e.elim
  obtain ⟨S', m', X', q⟩ := z
  exact k v s' S' m' X' q

section
variable {D : Wd} {n : Nat} {L : Addr} {S : PH} {m : Loc} {base : OH} {s s' : Shared} {A : Around}

theorem AtC.ext (X : AtC D base S s) (k : ∀ b o, s.heap.get? b = some o → s'.heap.get? b = some o) (hg : s'.gens = s.gens) (ho : s'.os = s.os) : AtC D base S s' where
  keep a o e := k _ _ (X.keep a o e)
  here a x e := let ⟨o, h, r⟩ := X.here a x e; ⟨o, k _ _ h, r⟩
  new := X.new
  dicts := let ⟨δ, h⟩ := X.dicts; ⟨δ, fun a C fs e => let ⟨h1, ⟨es, n, h2, h3⟩, h4⟩ := h a C fs e; ⟨k _ _ h1, ⟨es, n, k _ _ h2, h3⟩, h4⟩⟩
  gens := hg.trans X.gens
  os := ho.trans X.os

theorem AtC.same (X : AtC D base S s) (hh : s'.heap = s.heap) (hg : s'.gens = s.gens) (ho : s'.os = s.os) : AtC D base S s' :=
  X.ext (fun b o e => by rw [hh]; exact e) hg ho

/-- drop what is known -/
theorem AtC.mono {S' : PH} (X : AtC D base S s) (k : ∀ a x, S' a = some x → S a = some x) : AtC D base S' s where
  keep := X.keep
  here a x e := X.here a x (k _ _ e)
  new a x e := X.new a x (k _ _ e)
  dicts := let ⟨δ, h⟩ := X.dicts; ⟨δ, fun a C fs e => let ⟨h1, h2, h3, h4, h5⟩ := h a C fs (k _ _ e)
    ⟨h1, h2, h3, (by
      cases q : S' (δ a) with
      | none => rfl
      | some x => rw [k _ _ q] at h4; cases h4), fun a' C' fs' e' => h5 a' C' fs' (k _ _ e')⟩⟩
  gens := X.gens
  os := X.os

theorem AtC.fresh {a : Addr} (X : AtC D base S s) (h : s.heap.get? a = none) : S a = none ∧ base a = none := by
  constructor
  · cases q : S a with
    | none => rfl
    | some x => obtain ⟨o, e, _⟩ := X.here a x q; rw [h] at e; cases e
  · cases q : base a with
    | none => rfl
    | some x => rw [X.keep _ _ q] at h; cases h

theorem AtC.add {a : Addr} {x : AObj} {o : Obj} (X : AtC D base S s) (k : ∀ b o, s.heap.get? b = some o → s'.heap.get? b = some o) (hg : s'.gens = s.gens) (ho : s'.os = s.os)
    (hn : s.heap.get? a = none) (ha : s'.heap.get? a = some o) (r : ORep D.w x o) (hx : x.isInst = false) : AtC D base (S.set a x) s' := by
  have Y := X.ext k hg ho
  obtain ⟨f1, f2⟩ := X.fresh hn
  obtain ⟨δ, hd⟩ := X.dicts
  refine ⟨Y.keep, ?_, ?_, ⟨δ, ?_⟩, Y.gens, Y.os⟩
  · intro b y e
    by_cases hb : b = a
    · subst hb; rw [PH.set_same] at e; cases e; exact ⟨o, ha, r⟩
    · rw [PH.set_ne hb] at e; exact Y.here b y e
  · intro b y e
    by_cases hb : b = a
    · subst hb; exact f2
    · rw [PH.set_ne hb] at e; exact Y.new b y e
  · intro b C fs e
    have hb : b ≠ a := by rintro rfl; rw [PH.set_same] at e; cases e; cases hx
    rw [PH.set_ne hb] at e
    obtain ⟨h1, ⟨es, n, h2, h3⟩, h4, h5, h6⟩ := hd b C fs e
    have hne : δ b ≠ a := by intro q; rw [q, hn] at h2; cases h2
    refine ⟨k _ _ h1, ⟨es, n, k _ _ h2, h3⟩, h4, by rw [PH.set_ne hne]; exact h5, ?_⟩
    intro a' C' fs' e' q
    have ha' : a' ≠ a := by rintro rfl; rw [PH.set_same] at e'; cases e'; cases hx
    rw [PH.set_ne ha'] at e'
    exact h6 a' C' fs' e' q

theorem AtC.put {c : Addr} {x x' : AObj} {o' : Obj} (X : AtC D base S s) (hc : S c = some x) (hx' : x'.isInst = false)
    (k : ∀ b, b ≠ c → s'.heap.get? b = s.heap.get? b) (hg : s'.gens = s.gens) (ho : s'.os = s.os) (ha : s'.heap.get? c = some o') (r : ORep D.w x' o') : AtC D base (S.set c x') s' := by
  obtain ⟨δ, hd⟩ := X.dicts
  have hbc := X.new _ _ hc
  refine ⟨?_, ?_, ?_, ⟨δ, ?_⟩, hg.trans X.gens, ho.trans X.os⟩
  · intro a o e
    have : a ≠ c := by rintro rfl; rw [hbc] at e; cases e
    rw [k a this]; exact X.keep a o e
  · intro b y e
    by_cases hb : b = c
    · subst hb; rw [PH.set_same] at e; cases e; exact ⟨o', ha, r⟩
    · rw [PH.set_ne hb] at e; rw [k b hb]; exact X.here b y e
  · intro b y e
    by_cases hb : b = c
    · subst hb; exact hbc
    · rw [PH.set_ne hb] at e; exact X.new b y e
  · intro b C fs e
    have hb : b ≠ c := by rintro rfl; rw [PH.set_same] at e; cases e; cases hx'
    rw [PH.set_ne hb] at e
    obtain ⟨h1, ⟨es, n, h2, h3⟩, h4, h5, h6⟩ := hd b C fs e
    have hne : δ b ≠ c := by intro q; rw [q, hc] at h5; cases h5
    refine ⟨by rw [k b hb]; exact h1, ⟨es, n, by rw [k _ hne]; exact h2, h3⟩, h4, by rw [PH.set_ne hne]; exact h5, ?_⟩
    intro a' C' fs' e' q
    have ha' : a' ≠ c := by rintro rfl; rw [PH.set_same] at e'; cases e'; cases hx'
    rw [PH.set_ne ha'] at e'
    exact h6 a' C' fs' e' q

/-- a new object x of a class, with its empty dict dx -/
theorem AtC.addInst {x dx C : Addr} (X : AtC D base S s) (k : ∀ b o, s.heap.get? b = some o → s'.heap.get? b = some o) (hg : s'.gens = s.gens) (ho : s'.os = s.os)
    (hn : s.heap.get? x = none) (hdn : s.heap.get? dx = none) (hne : x ≠ dx) (ha : s'.heap.get? x = some (instObj C dx)) (hd' : s'.heap.get? dx = some (dictOf [] 0)) : AtC D base (S.set x (.inst C [])) s' := by
  have Y := X.ext k hg ho
  obtain ⟨f1, f2⟩ := X.fresh hn
  obtain ⟨g1, g2⟩ := X.fresh hdn
  obtain ⟨δ, hd⟩ := X.dicts
  refine ⟨Y.keep, ?_, ?_, ⟨fun b => if b = x then dx else δ b, ?_⟩, Y.gens, Y.os⟩
  · intro b y e
    by_cases hb : b = x
    · subst hb; rw [PH.set_same] at e; cases e; exact ⟨_, ha, _, rfl⟩
    · rw [PH.set_ne hb] at e; exact Y.here b y e
  · intro b y e
    by_cases hb : b = x
    · subst hb; exact f2
    · rw [PH.set_ne hb] at e; exact Y.new b y e
  · intro b C' fs e
    dsimp only
    by_cases hb : b = x
    · subst hb; rw [PH.set_same] at e; cases e
      refine ⟨by simpa using ha, ⟨[], 0, by simpa using hd', trivial⟩, by simpa using g2, by simp [PH.set_ne hne.symm, g1], ?_⟩
      intro a' C' fs' e' q
      by_cases ha' : a' = b
      · exact ha'
      · rw [PH.set_ne ha'] at e'
        obtain ⟨h1, ⟨es, n, h2, h3⟩, _⟩ := hd a' C' fs' e'
        simp only [ha', if_false, if_true] at q
        rw [q, hdn] at h2; cases h2
    · rw [PH.set_ne hb] at e
      obtain ⟨h1, ⟨es, n, h2, h3⟩, h4, h5, h6⟩ := hd b C' fs e
      have q1 : δ b ≠ x := by intro q; rw [q, hn] at h2; cases h2
      simp only [hb, if_false]
      refine ⟨k _ _ h1, ⟨es, n, k _ _ h2, h3⟩, h4, by rw [PH.set_ne q1]; exact h5, ?_⟩
      intro a' C'' fs' e' q
      by_cases ha' : a' = x
      · simp only [ha', if_true] at q; rw [← q, hdn] at h2; cases h2
      · rw [PH.set_ne ha'] at e'
        simp only [ha', if_false] at q
        exact h6 a' C'' fs' e' q

/-- an object's fields change -/
theorem AtC.putInst {x C dx : Addr} {fs fs' : List (Str × Value)} {es' : List DictEntry} {n' : Nat} (X : AtC D base S s) (hc : S x = some (.inst C fs))
    (hx : s.heap.get? x = some (instObj C dx))
    (k : ∀ b, b ≠ dx → s'.heap.get? b = s.heap.get? b) (hg : s'.gens = s.gens) (ho : s'.os = s.os) (ha : s'.heap.get? dx = some (dictOf es' n')) (r : FRep fs' es') :
    AtC D base (S.set x (.inst C fs')) s' := by
  obtain ⟨δ, hd⟩ := X.dicts
  obtain ⟨x1, ⟨es, n, x2, x3⟩, x4, x5, x6⟩ := hd x C fs hc
  have hdx : δ x = dx := by rw [x1] at hx; injection hx with hx; injection hx with _ h2; injection h2
  subst hdx
  have hbc := X.new _ _ hc
  refine ⟨?_, ?_, ?_, ⟨δ, ?_⟩, hg.trans X.gens, ho.trans X.os⟩
  · intro a o e
    have : a ≠ δ x := by rintro rfl; rw [x4] at e; cases e
    rw [k a this]; exact X.keep a o e
  · intro b y e
    by_cases hb : b = x
    · subst hb; rw [PH.set_same] at e; cases e
      have : b ≠ δ b := by intro q; rw [← q, hc] at x5; cases x5
      exact ⟨_, by rw [k b this]; exact x1, _, rfl⟩
    · rw [PH.set_ne hb] at e
      have : b ≠ δ x := by rintro rfl; rw [x5] at e; cases e
      rw [k b this]; exact X.here b y e
  · intro b y e
    by_cases hb : b = x
    · subst hb; exact hbc
    · rw [PH.set_ne hb] at e; exact X.new b y e
  · intro b C' fs'' e
    have key : ∀ b C' fs'', (S.set x (.inst C fs')) b = some (.inst C' fs'') → ∃ fs₀, S b = some (.inst C' fs₀) := by
      intro b C' fs'' e
      by_cases hb : b = x
      · subst hb; rw [PH.set_same] at e; cases e; exact ⟨_, hc⟩
      · rw [PH.set_ne hb] at e; exact ⟨_, e⟩
    obtain ⟨fs₀, e₀⟩ := key b C' fs'' e
    obtain ⟨h1, ⟨es₀, n₀, h2, h3⟩, h4, h5, h6⟩ := hd b C' fs₀ e₀
    have q0 : b ≠ δ x := by rintro rfl; rw [x5] at e₀; cases e₀
    have q1 : δ b ≠ x := by intro q; rw [q, hc] at h5; cases h5
    refine ⟨by rw [k b q0]; exact h1, ?_, h4, by rw [PH.set_ne q1]; exact h5, ?_⟩
    · by_cases hb : b = x
      · subst hb; rw [PH.set_same] at e; cases e; exact ⟨es', n', ha, r⟩
      · rw [PH.set_ne hb] at e
        have q2 : δ b ≠ δ x := fun q => hb (x6 b C' fs₀ e₀ q)
        have : fs'' = fs₀ := by rw [e] at e₀; cases e₀; rfl
        subst this
        exact ⟨es₀, n₀, by rw [k _ q2]; exact h2, h3⟩
    · intro a' C'' fs''' e' q
      obtain ⟨fs₁, e₁⟩ := key a' C'' fs''' e'
      exact h6 a' C'' fs₁ e₁ q
end
end Mine
namespace Mine

/-- a function's frame: env's own place and names -/
structure FE (L : Addr) (nm : List (Str × NameKind)) (env : Env) : Prop where
  k : env.scope.kind = .function
  l : env.locals = L
  gl : env.globals = mainGlobals
  bl : env.builtins = builtinsNs
  names : env.scope.names = nm
  dbg : nm.lookup (Str.ofString "__debug__") = none

theorem OH.comm {b : OH} {x y : Addr} {p q : Obj} (h : x ≠ y) : (b.set x p).set y q = (b.set y q).set x p := by
  funext z
  unfold OH.set
  by_cases h1 : z = x
  · subst h1; simp [h]
  · by_cases h2 : z = y
    · subst h2; simp [h1]
    · simp [h1, h2]

section
variable {D : Wd} {n : Nat} {L : Addr} {S : PH} {m : Loc} {base : OH} {s s' : Shared} {A : Around}

theorem FE.ndbg {nm : List (Str × NameKind)} {env : Env} (fe : FE L nm env) {x : Str} {k : NameKind} (h : nm.lookup x = some k) : (x == ("__debug__" : Str)) = false := by
  cases q : x == ("__debug__" : Str) with
  | false => rfl
  | true => rw [eq_of_beq q, fe.dbg] at h; cases h
theorem FE.kindOf {nm : List (Str × NameKind)} {env : Env} (fe : FE L nm env) {x : Str} {k : NameKind} (h : nm.lookup x = some k) : env.kindOf x = some k := by
  unfold Env.kindOf; rw [fe.names]; exact h

theorem At.toC (X : At D base L S m s) : AtC D base S s := by
  obtain ⟨hL, oL, C, _⟩ := X
  refine ⟨fun a o e => C.keep a o ?_, C.here, fun a x e => ?_, ?_, C.gens, C.os⟩
  · rw [OH.set_ne (by rintro rfl; rw [hL] at e; cases e)]; exact e
  · have := C.new a x e
    by_cases q : a = L
    · subst q; exact hL
    · rwa [OH.set_ne q] at this
  · obtain ⟨δ, h⟩ := C.dicts
    refine ⟨δ, fun a C fs e => ?_⟩
    obtain ⟨h1, h2, h3, h4⟩ := h a C fs e
    refine ⟨h1, h2, ?_, h4⟩
    by_cases q : δ a = L
    · rw [q]; exact hL
    · rwa [OH.set_ne q] at h3

theorem At.notL {a : Addr} {x : AObj} (X : At D base L S m s) (h : S a = some x) : a ≠ L := by
  obtain ⟨_, oL, C, _⟩ := X
  rintro rfl
  have := C.new _ _ h
  rw [OH.set_same] at this; cases this

theorem At.ext (X : At D base L S m s) (k : ∀ b o, s.heap.get? b = some o → s'.heap.get? b = some o) (hg : s'.gens = s.gens) (ho : s'.os = s.os) : At D base L S m s' :=
  let ⟨a, oL, C, r⟩ := X; ⟨a, oL, C.ext k hg ho, r⟩
theorem At.same (X : At D base L S m s) (hh : s'.heap = s.heap) (hg : s'.gens = s.gens) (ho : s'.os = s.os) : At D base L S m s' :=
  X.ext (fun b o e => by rw [hh]; exact e) hg ho
theorem At.mono {S' : PH} (X : At D base L S m s) (k : ∀ a x, S' a = some x → S a = some x) : At D base L S' m s := let ⟨a, oL, C, r⟩ := X; ⟨a, oL, C.mono k, r⟩
theorem At.tok (X : At D base L S m s) (k : Nat) : At D base L S m { s with toks := k } := X.same rfl rfl rfl
theorem At.add {a : Addr} {x : AObj} {o : Obj} (X : At D base L S m s) (k : ∀ b o, s.heap.get? b = some o → s'.heap.get? b = some o) (hg : s'.gens = s.gens) (ho : s'.os = s.os)
    (hn : s.heap.get? a = none) (ha : s'.heap.get? a = some o) (r : ORep D.w x o) (hx : x.isInst = false) : At D base L (S.set a x) m s' :=
  let ⟨p, oL, C, r'⟩ := X; ⟨p, oL, C.add k hg ho hn ha r hx, r'⟩
theorem At.put {c : Addr} {x x' : AObj} {o' : Obj} (X : At D base L S m s) (hc : S c = some x) (hx' : x'.isInst = false)
    (k : ∀ b, b ≠ c → s'.heap.get? b = s.heap.get? b) (hg : s'.gens = s.gens) (ho : s'.os = s.os) (ha : s'.heap.get? c = some o') (r : ORep D.w x' o') : At D base L (S.set c x') m s' :=
  let ⟨p, oL, C, r'⟩ := X; ⟨p, oL, C.put hc hx' k hg ho ha r, r'⟩
theorem At.here {a : Addr} {x : AObj} (X : At D base L S m s) (h : S a = some x) : ∃ o, s.heap.get? a = some o ∧ ORep D.w x o := let ⟨_, _, C, _⟩ := X; C.here a x h
theorem At.fresh {a : Addr} (X : At D base L S m s) (h : s.heap.get? a = none) : S a = none := X.toC.fresh h |>.1
theorem At.gens (X : At D base L S m s) : s.gens = #[] := X.toC.gens
theorem At.os (X : At D base L S m s) : s.os = D.os := X.toC.os

theorem At.ns (X : At D base L S m s) : ∃ m' : Str → Option Value, s.heap.Ns L m' ∧ ∀ x, (m' x).map er = m x := by
  obtain ⟨_, oL, C, es, ep, hd, hk, m', hm, hr⟩ := X
  exact ⟨m', ⟨oL, es, ep, C.keep L oL (OH.set_same ..), hd, hk, hm⟩, hr⟩
theorem At.keeps (X : At D base L S m s) (B : Base D base) : ∀ b o, D.h₁.get? b = some o → s.heap.get? b = some o := fun b o e => X.toC.keep _ _ (B _ _ e)
theorem At.K (X : At D base L S m s) (B : Base D base) : (KK D.w.params).In s.heap := D.KX.keeps (X.keeps B)

theorem At.setLocal {name : Str} {v : Value} {m' : Str → Option Value} (X : At D base L S m s) (hm : ∀ x, (m' x).map er = m x) (hn : s'.heap.Ns L fun x => if x = name then some v else m' x)
    (hs : Heap.SameBut L s.heap s'.heap) (hg : s'.gens = s.gens) (ho : s'.os = s.os) : At D base L S (m.set name (er v)) s' := by
  obtain ⟨hL, oL, C, hO⟩ := X
  obtain ⟨oL', es, ep, h1, h2, h3, h4⟩ := hn
  have notL : ∀ a x, S a = some x → a ≠ L := by
    rintro a x e rfl
    have := C.new _ _ e; rw [OH.set_same] at this; cases this
  refine ⟨hL, oL', ⟨?_, ?_, ?_, ?_, hg.trans C.gens, ho.trans C.os⟩, es, ep, h2, h3, _, h4, ?_⟩
  · intro a o e
    by_cases q : a = L
    · subst q; rw [OH.set_same] at e; cases e; exact h1
    · rw [OH.set_ne q] at e; rw [hs.2 a q]; exact C.keep a o (by rw [OH.set_ne q]; exact e)
  · intro a x e
    rw [hs.2 a (notL a x e)]; exact C.here a x e
  · intro a x e
    have q := notL a x e
    have := C.new a x e
    rw [OH.set_ne q] at this ⊢; exact this
  · obtain ⟨δ, h⟩ := C.dicts
    refine ⟨δ, fun a Cl fs e => ?_⟩
    obtain ⟨x1, ⟨es, n, x2, x3⟩, x4, x5⟩ := h a Cl fs e
    have q : δ a ≠ L := by intro q; rw [q, OH.set_same] at x4; cases x4
    exact ⟨by rw [hs.2 a (notL a _ e)]; exact x1, ⟨es, n, by rw [hs.2 _ q]; exact x2, x3⟩, by rw [OH.set_ne q] at x4 ⊢; exact x4, x5⟩
  · intro x
    unfold Loc.set
    split
    · rfl
    · exact hm x
end

section
variable {D : Wd} {n : Nat} {L : Addr} {S : PH} {m : Loc} {nm : List (Str × NameKind)} {env : Env}
variable {α β : Type}

theorem W_mono {t : Sem α} {Q Q' : α → PH → Loc → Prop} (h : W D n L t S m Q) (k : ∀ a S m, Q a S m → Q' a S m) : W D n L t S m Q' :=
  fun base A s o b x => wpAny_mono (h base A s o b x) (fun a s' ⟨S', m', x', q⟩ => ⟨S', m', x', k _ _ _ q⟩) fun _ _ e => e

theorem W_bind {t : Sem α} {f : α → Sem β} {Q : β → PH → Loc → Prop} (h : W D n L t S m (fun a S m => W D n L (f a) S m Q)) : W D n L (t >>= f) S m Q :=
  fun base A s o b x => wpAny_bind (wpAny_mono (h base A s o b x) (fun a s' ⟨S', m', x', q⟩ => q base A s' o b x') fun _ _ e => e)

theorem W_pure {a : α} {Q : α → PH → Loc → Prop} (h : Q a S m) : W D n L (pure a) S m Q := fun _ _ _ _ _ x => wpAny_pure ⟨S, m, x, h⟩

/-- weaken what is known of the made objects -/
theorem W_drop {t : Sem α} {S' : PH} {Q : α → PH → Loc → Prop} (h : W D n L t S' m Q) (k : ∀ a x, S' a = some x → S a = some x) : W D n L t S m Q :=
  fun base A s o b x => h base A s o b (x.mono k)

/-! names -/
theorem EV_local {x : Str} {v : Value} {pos : Pos} {Q : Value → PH → Loc → Prop} (fe : FE L nm env) (hl : nm.lookup x = some .local) (hv : m x = some v) (h : Q v S m) :
    EV D n L (eval (.Name x pos) env) S m Q := fun base A s _ _ X => by
  obtain ⟨m', hn, hm⟩ := X.ns
  have e := hm x
  rw [hv] at e
  obtain ⟨u, hu, he⟩ := Option.map_eq_some_iff.mp e
  refine wpAny_Name (wpAny_loadName_local fe.k (fe.kindOf hl) (by rw [fe.l]; exact hn) hu ⟨S, m, X, ?_⟩) (fe.ndbg hl)
  show Q (er u) S m
  rw [he]; exact h

theorem W_store {x : Str} {v : Value} {Q : Unit → PH → Loc → Prop} (fe : FE L nm env) (hl : nm.lookup x = some .local) (h : Q () S (m.set x (er v))) :
    W D n L (storeName env x v) S m Q := fun base A s _ _ X => by
  obtain ⟨m', hn, hm⟩ := X.ns
  refine wpAny_storeName_local (fe.kindOf hl) (by rw [fe.l]; exact hn) (fun h' hn' hs => ⟨S, _, ?_, h⟩) (by rw [fe.k]; rfl)
  rw [fe.l] at hn' hs
  exact X.setLocal hm hn' hs rfl rfl

theorem EV_global {x : Str} {v : Value} {pos : Pos} {Q : Value → PH → Loc → Prop} (fe : FE L nm env) (hl : nm.lookup x = some .globalImplicit)
    (e : nsIn (KK D.w.params) mainGlobals x = some (some v)) (h : Q (er v) S m) : EV D n L (eval (.Name x pos) env) S m Q := fun base A s _ B X => by
  refine Calls.Name_function_global fe.k (fe.kindOf hl) (Calls.loadGlobal_global (mg := D.mg) (by rw [fe.gl]; exact D.g.keeps (X.keeps B)) (mg_of D.KX D.g e) ⟨S, m, X, h⟩) (fe.ndbg hl)
theorem EV_builtin {x : Str} {v : Value} {pos : Pos} {Q : Value → PH → Loc → Prop} (fe : FE L nm env) (hl : nm.lookup x = some .globalImplicit)
    (e : nsIn (KK D.w.params) mainGlobals x = some none) (hv : bootBuiltins x = some v) (hne : x ≠ "__name__") (h : Q (er v) S m) : EV D n L (eval (.Name x pos) env) S m Q := fun base A s _ B X => by
  refine Calls.Name_function_global fe.k (fe.kindOf hl) (Calls.loadGlobal_builtin (mg := D.mg) (mb := D.mb) (by rw [fe.gl]; exact D.g.keeps (X.keeps B)) (mg_none_of D.KX D.g e)
    (by rw [fe.bl]; exact D.b.keeps (X.keeps B)) ((D.bb x hne).trans hv) ⟨S, m, X, h⟩) (fe.ndbg hl)

/-! constants -/
theorem EV_int {i : Int} {k pos} {Q : Value → PH → Loc → Prop} (h : Q (.int i 0) S m) : EV D n L (eval (.Constant (.int i) k pos) env) S m Q := fun _ _ s _ _ X => wpAny_Constant_int ⟨S, m, X.tok _, h⟩
theorem EV_str {x : Str} {k pos} {Q : Value → PH → Loc → Prop} (h : Q (.str x 0) S m) : EV D n L (eval (.Constant (.str x) k pos) env) S m Q := fun _ _ s _ _ X => Calls.Constant_str ⟨S, m, X.tok _, h⟩
theorem EV_bool {x : Bool} {k pos} {Q : Value → PH → Loc → Prop} (h : Q (.bool x) S m) : EV D n L (eval (.Constant (.bool x) k pos) env) S m Q := fun _ _ s _ _ X => wpAny_Constant_bool ⟨S, m, X, h⟩
theorem EV_none {k pos} {Q : Value → PH → Loc → Prop} (h : Q .none S m) : EV D n L (eval (.Constant .none k pos) env) S m Q := fun _ _ s _ _ X => wpAny_Constant_none ⟨S, m, X, h⟩
end
end Mine
namespace Mine

noncomputable def Bin (D : Wd) (n : Nat) (L : Addr) (op : Operator) (a b : Value) (S : PH) (m : Loc) (Q : Value → PH → Loc → Prop) : Prop :=
  ∀ a' b', er a' = a → er b' = b → EV D n L (binaryOp op a' b') S m Q
noncomputable def Inp (D : Wd) (n : Nat) (L : Addr) (op : Operator) (a b : Value) (S : PH) (m : Loc) (Q : Value → PH → Loc → Prop) : Prop :=
  ∀ a' b', er a' = a → er b' = b → EV D n L (inplaceOp op a' b') S m Q
noncomputable def Cmp (D : Wd) (n : Nat) (L : Addr) (op : CmpOp) (a b : Value) (S : PH) (m : Loc) (Q : Value → PH → Loc → Prop) : Prop :=
  ∀ a' b', er a' = a → er b' = b → EV D n L (compareOp op a' b') S m Q
noncomputable def Uny (D : Wd) (n : Nat) (L : Addr) (op : UnaryOp) (a : Value) (S : PH) (m : Loc) (Q : Value → PH → Loc → Prop) : Prop :=
  ∀ a', er a' = a → EV D n L (unaryOp op a') S m Q
noncomputable def Tru (D : Wd) (n : Nat) (L : Addr) (a : Value) (S : PH) (m : Loc) (Q : Bool → PH → Loc → Prop) : Prop :=
  ∀ a', er a' = a → W D n L (truthy a') S m Q
noncomputable def Sub (D : Wd) (n : Nat) (L : Addr) (value slice : Expr) (a b : Value) (S : PH) (m : Loc) (Q : Value → PH → Loc → Prop) : Prop :=
  ∀ a' b', er a' = a → er b' = b → EV D n L (subscriptTail value slice a' b') S m Q
noncomputable def GetA (D : Wd) (n : Nat) (L : Addr) (attr : Str) (a : Value) (S : PH) (m : Loc) (Q : Value → PH → Loc → Prop) : Prop :=
  ∀ a', er a' = a → EV D n L (getAttr a' attr true) S m Q
noncomputable def SetA (D : Wd) (n : Nat) (L : Addr) (attr : Str) (a v : Value) (S : PH) (m : Loc) (Q : Unit → PH → Loc → Prop) : Prop :=
  ∀ a' v', er a' = a → er v' = v → W D n L (setAttr a' attr v') S m Q
noncomputable def SetI (D : Wd) (n : Nat) (L : Addr) (a i v : Value) (S : PH) (m : Loc) (Q : Unit → PH → Loc → Prop) : Prop :=
  ∀ a' i' v', er a' = a → er i' = i → er v' = v → W D n L (setItem a' i' v') S m Q
noncomputable def Met (D : Wd) (n : Nat) (L : Addr) (name : Str) (a : Value) (S : PH) (m : Loc) (Q : Value → List Value → PH → Loc → Prop) : Prop :=
  ∀ a' pl, er a' = a → W D n L (getMethod a' name pl) S m (fun r => Q (er r.1) (r.2.map er))
noncomputable def CallW (D : Wd) (n : Nat) (L : Addr) (f : Value) (vs : List Value) (S : PH) (m : Loc) (Q : Value → PH → Loc → Prop) : Prop :=
  ∀ vs', vs'.map er = vs → EV D n L (call f vs') S m Q
/-- the arguments of a call, in order -/
noncomputable def Args (D : Wd) (n : Nat) (L : Addr) (env : Env) (pos : Pos) (es : List Expr) (S : PH) (m : Loc) (Q : List Value → PH → Loc → Prop) : Prop :=
  W D n L (spliced (backTo pos (starEach es env))) S m (fun vs => Q (vs.map er))
noncomputable def BT (D : Wd) (n : Nat) (L : Addr) (env : Env) (e : Expr) (S : PH) (m : Loc) (Q : Bool → PH → Loc → Prop) : Prop := W D n L (isTrue e env (eval e env)) S m Q
noncomputable def AT (D : Wd) (n : Nat) (L : Addr) (env : Env) (op : BoolOp) (es : List Expr) (S : PH) (m : Loc) (Q : Bool → PH → Loc → Prop) : Prop := W D n L (allTrue op es env) S m Q

section
variable {D : Wd} {n : Nat} {L : Addr} {S : PH} {m : Loc} {nm : List (Str × NameKind)} {env : Env}
variable {Q : Value → PH → Loc → Prop} {B : Bool → PH → Loc → Prop} {R : Flow → PH → Loc → Prop} {U : Unit → PH → Loc → Prop}

theorem Ok.units {n : Nat} {A : Around} (o : Ok n A) : A.units + 20 < cLine ∨ n = 0 := by
  obtain ⟨_, _, h⟩ := o; rw [cLine_is]; (first | lia | omega)
theorem Ok.room {n : Nat} {A : Around} (o : Ok n A) : A.units < cLine := by obtain ⟨_, _, h⟩ := o; rw [cLine_is]; (first | lia | omega)
theorem Ok.room1 {n : Nat} {A : Around} (o : Ok (n + 1) A) : A.in1.units < cLine := by obtain ⟨_, _, h⟩ := o; rw [cLine_is]; show A.units + 1 < _; (first | lia | omega)
theorem Ok.mono {n k : Nat} {A : Around} (o : Ok (n + k) A) : Ok n A := ⟨o.1, by have := o.2.1; (first | lia | omega), by have := o.2.2; (first | lia | omega)⟩
theorem Ok.in1 {n : Nat} {A : Around} (o : Ok (n + 1) A) : Ok n A.in1 := ⟨o.1, by have := o.2.1; show A.depth + _ < _; (first | lia | omega), by have := o.2.2; show A.units + 1 + _ + 100 < _; (first | lia | omega)⟩
theorem Ok.deeper {n : Nat} {A : Around} {env : Env} (o : Ok (n + 1) A) : Ok n (A.deeper env) := ⟨o.1, by have := o.2.1; show A.depth + 1 + _ < _; (first | lia | omega), by have := o.2.2; show A.units + 3 + _ + 100 < _; (first | lia | omega)⟩

/-! expressions -/
theorem EV_bin {l r : Expr} {op : Operator} {pos : Pos} (h : EV D n L (eval l env) S m fun a S m => EV D n L (eval r env) S m fun b S m => Bin D n L op a b S m Q) :
    EV D n L (eval (.BinOp l op r pos) env) S m Q := fun base A s o Bs X =>
  wpAny_BinOp (W.go h o Bs X fun a s₁ S₁ m₁ X₁ h₁ => W.go h₁ o Bs X₁ fun b s₂ S₂ m₂ X₂ h₂ => h₂ a b rfl rfl base A s₂ o Bs X₂)
theorem EV_cmp {l r : Expr} {op : CmpOp} {pos : Pos} (hm : behindInMarks op r = false) (h : EV D n L (eval l env) S m fun a S m => EV D n L (eval r env) S m fun b S m => Cmp D n L op a b S m Q) :
    EV D n L (eval (.Compare l [op] [r] pos) env) S m Q := fun base A s o Bs X =>
  wpAny_Compare1 (W.go h o Bs X fun a s₁ S₁ m₁ X₁ h₁ => W.go h₁ o Bs X₁ fun b s₂ S₂ m₂ X₂ h₂ => h₂ a b rfl rfl base A s₂ o Bs X₂) hm
theorem EV_una {x : Expr} {op : UnaryOp} {pos : Pos} (h : EV D n L (eval x env) S m fun a S m => Uny D n L op a S m Q) : EV D n L (eval (.UnaryOp op x pos) env) S m Q := fun base A s o Bs X =>
  wpAny_UnaryOp (W.go h o Bs X fun a s₁ S₁ m₁ X₁ h₁ => h₁ a rfl base A s₁ o Bs X₁)
theorem EV_ifexp {t a b : Expr} {pos : Pos} (h : BT D n L env t S m fun c S m => if c = true then EV D n L (eval a env) S m Q else EV D n L (eval b env) S m Q) :
    EV D n L (eval (.IfExp t a b pos) env) S m Q := fun base A s o Bs X =>
  wpAny_IfExp (W.go h o Bs X fun c s₁ S₁ m₁ X₁ h₁ => by cases c <;> exact h₁ base A s₁ o Bs X₁)
theorem EV_or2 {x y : Expr} {pos : Pos} (h : EV D n L (eval x env) S m fun v S m => Tru D n L v S m fun t S m => if t = true then Q v S m else EV D n L (eval y env) S m Q) :
    EV D n L (eval (.BoolOp .Or [x, y] pos) env) S m Q := fun base A s o Bs X =>
  wpAny_Or2 (W.go h o Bs X fun v s₁ S₁ m₁ X₁ h₁ => W.go (h₁ v rfl) o Bs X₁ fun t s₂ S₂ m₂ X₂ h₂ => by
    cases t
    · exact h₂ base A s₂ o Bs X₂
    · exact ⟨S₂, m₂, X₂, h₂⟩)
theorem EV_and2 {x y : Expr} {pos : Pos} (h : EV D n L (eval x env) S m fun v S m => Tru D n L v S m fun t S m => if t = true then EV D n L (eval y env) S m Q else Q v S m) :
    EV D n L (eval (.BoolOp .And [x, y] pos) env) S m Q := fun base A s o Bs X =>
  wpAny_And2 (W.go h o Bs X fun v s₁ S₁ m₁ X₁ h₁ => W.go (h₁ v rfl) o Bs X₁ fun t s₂ S₂ m₂ X₂ h₂ => by
    cases t
    · exact ⟨S₂, m₂, X₂, h₂⟩
    · exact h₂ base A s₂ o Bs X₂)
theorem EV_sub {value slice : Expr} {pos : Pos} (h : EV D n L (eval value env) S m fun a S m => EV D n L (eval slice env) S m fun b S m => Sub D n L value slice a b S m Q) :
    EV D n L (eval (.Subscript value slice pos) env) S m Q := fun base A s o Bs X =>
  Subscript_ (W.go h o Bs X fun a s₁ S₁ m₁ X₁ h₁ => W.go h₁ o Bs X₁ fun b s₂ S₂ m₂ X₂ h₂ => h₂ a b rfl rfl base A s₂ o Bs X₂)
theorem EV_attr {value : Expr} {attr : Str} {pos : Pos} (h : EV D n L (eval value env) S m fun a S m => GetA D n L attr a S m Q)
    (he : eval (.Attribute value attr pos) env = (do let o ← eval value env; standAt pos.atName; let r ← holding [o] (getAttr o attr true); letTemporaryGo value o r; pure r)) :
    EV D n L (eval (.Attribute value attr pos) env) S m Q := fun base A s o Bs X =>
  Attribute_any_ (W.go h o Bs X fun a s₁ S₁ m₁ X₁ h₁ => h₁ a rfl base A s₁ o Bs X₁) he
theorem EV_tuple {elts : List Expr} {k : Nat} {pos : Pos} (h : Args D n L env pos elts S m fun vs S m => vs.length ≤ 1000 ∧ ∀ a, S a = none → Q (.ref a) (S.set a (.tup vs)) m) :
    EV D n L (eval (.Tuple elts k pos) env) S m Q := fun base A s o Bs X =>
  PyProof.Rows.Tuple_ (wpAny_mono (h base A s o Bs X) (fun vs s₁ ⟨S₁, m₁, X₁, h₁, h₂⟩ => by
    have hl : vs.length ≤ 1000 := by simpa using h₁
    have fr : s₁.heap.get? s₁.heap.objs.size = none := by
      cases q : s₁.heap.get? s₁.heap.objs.size with
      | none => rfl
      | some o => exact absurd (Heap.lt_size q) (Nat.lt_irrefl _)
    refine wpAny_newObj_type ⟨_, _, X₁.add (a := s₁.heap.objs.size) (x := .tup (vs.map er)) (fun b o e => Heap.get?_push_of_some _ e) rfl rfl fr (Heap.get?_push_size _ rfl) ⟨_, _, rfl, by simp⟩ rfl, h₂ _ (X₁.fresh fr)⟩
      (by show vs.toArray.size ≤ sizeLine; rw [List.size_toArray, sizeLine_eq]; (first | lia | omega))) fun _ _ e => e)
theorem EV_list {elts : List Expr} {pos : Pos} (h : Args D n L env pos elts S m fun vs S m => vs.length ≤ 1000 ∧ ∀ a, S a = none → Q (.ref a) (S.set a (.list vs)) m) :
    EV D n L (eval (.List elts pos) env) S m Q := fun base A s o Bs X =>
  PyProof.Rows.List_ (wpAny_mono (h base A s o Bs X) (fun vs s₁ ⟨S₁, m₁, X₁, h₁, h₂⟩ => by
    have hl : vs.length ≤ 1000 := by simpa using h₁
    have fr : s₁.heap.get? s₁.heap.objs.size = none := by
      cases q : s₁.heap.get? s₁.heap.objs.size with
      | none => rfl
      | some o => exact absurd (Heap.lt_size q) (Nat.lt_irrefl _)
    refine wpAny_newObj_type ⟨_, _, X₁.add (a := s₁.heap.objs.size) (x := .list (vs.map er)) (fun b o e => Heap.get?_push_of_some _ e) rfl rfl fr (Heap.get?_push_size _ rfl) ⟨_, _, rfl, by simp⟩ rfl, h₂ _ (X₁.fresh fr)⟩
      (by show vs.toArray.size ≤ sizeLine; rw [List.size_toArray, sizeLine_eq]; (first | lia | omega))) fun _ _ e => e)
theorem EV_dict {pos : Pos} (h : ∀ a, S a = none → Q (.ref a) (S.set a (.dict [] 0)) m) : EV D n L (eval (.Dict [] [] pos) env) S m Q := fun base A s o Bs X => by
  have fr : s.heap.get? s.heap.objs.size = none := by
    cases q : s.heap.get? s.heap.objs.size with
    | none => rfl
    | some o => exact absurd (Heap.lt_size q) (Nat.lt_irrefl _)
  refine wpAny_Dict_empty ⟨_, _, X.add (a := s.heap.objs.size) (x := .dict [] 0) (fun b o e => Heap.get?_push_of_some _ e) rfl rfl fr (Heap.get?_push_size _ rfl) ⟨[], #[], ?_, rfl⟩ rfl, h _ (X.fresh fr)⟩
  exact ⟨⟨rfl, rfl, rfl⟩, rfl, (fun e he => by simp at he), .nil, .nil⟩

theorem Args_nil {pos : Pos} {Q : List Value → PH → Loc → Prop} (h : Q [] S m) : Args D n L env pos [] S m Q := fun base A s o Bs X => args_nil ⟨S, m, X, h⟩
theorem Args_cons {pos : Pos} {e : Expr} {es : List Expr} {Q : List Value → PH → Loc → Prop} (h : EV D n L (eval e env) S m fun v S m => Args D n L env pos es S m fun vs S m => Q (v :: vs) S m)
    (he : starEach (e :: es) env = (false, eval e env) :: starEach es env) : Args D n L env pos (e :: es) S m Q := fun base A s o Bs X =>
  args_cons (W.go h o Bs X fun v s₁ S₁ m₁ X₁ h₁ => h₁ base A s₁ o Bs X₁) he

/-! calls -/
theorem EV_call_fn {x : Str} {p pos : Pos} {args : List Expr} {f : Addr} (fe : FE L nm env) (hl : nm.lookup x = some .globalImplicit)
    (e : nsIn (KK D.w.params) mainGlobals x = some (some (.ref f))) (hk : keepIn (KK D.w.params) (.ref f) = true)
    (h : Args D n L env pos args S m fun vs S m => CallW D n L (.ref f) vs S m Q)
    (he : ∃ a r, args = a :: r ∧ starEach (a :: r) env = (false, eval a env) :: starEach r env ∧ (backTo pos (starEach r env)).any (·.1) = false) :
    EV D n L (eval (.Call (.Name x p) args [] pos) env) S m Q := fun base A s o Bs X => by
  obtain ⟨a, r, rfl, h1, h2⟩ := he
  refine wpAny_Call_ofName (wpAny_mono (EV_global (D := D) (n := n) (S := S) (m := m) (Q := fun v S' m' => v = .ref f ∧ S' = S ∧ m' = m) fe hl e ⟨rfl, rfl, rfl⟩ base A s o Bs X) (fun fv s₁ z => ?_) fun _ _ e => e)
  obtain ⟨S₁, m₁, X₁, hf, e1, e2⟩ := z
  subst e1 e2
  rw [er_ref hf]
  refine callWith_K (X₁.K Bs) hk (W.go h o Bs X₁ fun vs s₂ S₂ m₂ X₂ h₂ => ⟨X₂.K Bs, h₂ vs rfl base A s₂ o Bs X₂⟩) h1 h2
theorem EV_call_cls0 {x : Str} {p pos : Pos} {f : Addr} (fe : FE L nm env) (hl : nm.lookup x = some .globalImplicit)
    (e : nsIn (KK D.w.params) mainGlobals x = some (some (.ref f))) (hk : keepIn (KK D.w.params) (.ref f) = true)
    (h : CallW D n L (.ref f) [] S m Q) : EV D n L (eval (.Call (.Name x p) [] [] pos) env) S m Q := fun base A s o Bs X => by
  refine wpAny_Call_ofName (wpAny_mono (EV_global (D := D) (n := n) (S := S) (m := m) (Q := fun v S' m' => v = .ref f ∧ S' = S ∧ m' = m) fe hl e ⟨rfl, rfl, rfl⟩ base A s o Bs X) (fun fv s₁ z => ?_) fun _ _ e => e)
  obtain ⟨S₁, m₁, X₁, hf, e1, e2⟩ := z
  subst e1 e2
  rw [er_ref hf]
  exact callWith_K0 (X₁.K Bs) hk (h [] rfl base A s₁ o Bs X₁)
theorem EV_call_bi {x : Str} {p pos : Pos} {args : List Expr} {id : String} (fe : FE L nm env) (hl : nm.lookup x = some .globalImplicit)
    (e : nsIn (KK D.w.params) mainGlobals x = some none) (hv : bootBuiltins x = some (.builtin id)) (hne : x ≠ "__name__")
    (h : Args D n L env pos args S m fun vs S m => CallW D n L (.builtin id) vs S m Q)
    (he : ∃ a r, args = a :: r ∧ starEach (a :: r) env = (false, eval a env) :: starEach r env ∧ (backTo pos (starEach r env)).any (·.1) = false) :
    EV D n L (eval (.Call (.Name x p) args [] pos) env) S m Q := fun base A s o Bs X => by
  obtain ⟨a, r, rfl, h1, h2⟩ := he
  refine wpAny_Call_ofName (wpAny_mono (EV_builtin (D := D) (n := n) (S := S) (m := m) (Q := fun v S' m' => v = .builtin id ∧ S' = S ∧ m' = m) fe hl e hv hne ⟨rfl, rfl, rfl⟩ base A s o Bs X) (fun fv s₁ z => ?_) fun _ _ e => e)
  obtain ⟨S₁, m₁, X₁, hf, e1, e2⟩ := z
  subst e1 e2
  rw [er_builtin hf]
  exact PyProof.Rows.callWith_builtin1 (W.go h o Bs X₁ fun vs s₂ S₂ m₂ X₂ h₂ => h₂ vs rfl base A s₂ o Bs X₂) h1 h2
theorem EV_call_ty {x : Str} {p pos : Pos} {args : List Expr} {id : String} (fe : FE L nm env) (hl : nm.lookup x = some .globalImplicit)
    (e : nsIn (KK D.w.params) mainGlobals x = some none) (hv : bootBuiltins x = some (.type id)) (hne : x ≠ "__name__")
    (h : Args D n L env pos args S m fun vs S m => CallW D n L (.type id) vs S m Q)
    (he : ∃ a r, args = a :: r ∧ starEach (a :: r) env = (false, eval a env) :: starEach r env ∧ (backTo pos (starEach r env)).any (·.1) = false) :
    EV D n L (eval (.Call (.Name x p) args [] pos) env) S m Q := fun base A s o Bs X => by
  obtain ⟨a, r, rfl, h1, h2⟩ := he
  refine wpAny_Call_ofName (wpAny_mono (EV_builtin (D := D) (n := n) (S := S) (m := m) (Q := fun v S' m' => v = .type id ∧ S' = S ∧ m' = m) fe hl e hv hne ⟨rfl, rfl, rfl⟩ base A s o Bs X) (fun fv s₁ z => ?_) fun _ _ e => e)
  obtain ⟨S₁, m₁, X₁, hf, e1, e2⟩ := z
  subst e1 e2
  rw [er_type hf]
  exact PyProof.Rows.callWith_type1 (W.go h o Bs X₁ fun vs s₂ S₂ m₂ X₂ h₂ => h₂ vs rfl base A s₂ o Bs X₂) h1 h2

/-- a call of the text's own: its contract, under the caller's frame -/
theorem CallW_own {f : Value} {vs : List Value} (h : CallC D n f vs S fun v S' => Q v S' m) : CallW D n L f vs S m Q := fun vs' hv base A s o Bs X => by
  obtain ⟨hL, oL, C, hO⟩ := X
  have Bs' : Base D (base.set L oL) := fun a ob e => by
    have := Bs a ob e
    rw [OH.set_ne (by rintro rfl; rw [hL] at this; cases this)]; exact this
  refine wpAny_call (codeAny_mono (h _ A s vs' o Bs' C hv) fun r s' ⟨v, S', e, C', q⟩ => ?_)
  subst e
  exact ⟨S', m, ⟨hL, oL, C', hO⟩, q⟩

/-! methods: o.name(args) -/
theorem EV_method {ob : Expr} {name : Str} {apos pos : Pos} {args : List Expr} {pl : Sem Bool}
    (h : EV D n L (eval ob env) S m fun o S m => Met D n L name o S m fun f first S m => ∃ id, f = .builtin id ∧ Args D n L env pos args S m fun vs S m => CallW D n L (.builtin id) (first ++ vs) S m Q)
    (he : eval (.Call (.Attribute ob name apos) args [] pos) env = (do
      let ov ← eval ob env
      standAt apos.atName
      let (f, first) ← holding [ov] (getMethod ov name pl)
      callWith pos f first (backTo pos (starEach args env)) []))
    (hargs : args = [] ∨ ∃ a r, args = a :: r ∧ starEach (a :: r) env = (false, eval a env) :: starEach r env ∧ (backTo pos (starEach r env)).any (·.1) = false) :
    EV D n L (eval (.Call (.Attribute ob name apos) args [] pos) env) S m Q := fun base A s o Bs X => by
  refine MethodCall_ (W.go h o Bs X fun a s₁ S₁ m₁ X₁ h₁ => wpAny_mono (h₁ a pl rfl base A s₁ o Bs X₁) (fun r s₂ z => ?_) fun _ _ e => e) he
  obtain ⟨S₂, m₂, X₂, id, hf, h₂⟩ := z
  obtain ⟨f, first⟩ := r
  have hf' := er_builtin hf
  dsimp only at hf' h₂ ⊢
  subst hf'
  rcases hargs with rfl | ⟨a, r, rfl, h1, h2⟩
  · refine callWith_method0 ?_
    have h3 := h₂ base A s₂ o Bs X₂
    intro Γ p hΓ
    obtain ⟨S₃, m₃, X₃, h₃⟩ := h3 Γ p hΓ
    exact h₃ first (by simp) base A s₂ o Bs X₃ Γ p hΓ
  · refine Calls.callWith_builtin (by rw [h1]; exact h2) ?_
    have h3 := h₂ base A s₂ o Bs X₂
    rw [h1] at h3 ⊢
    exact Calls.evalArgs_plain (wpAny_mono h3 (fun vs s₃ ⟨S₃, m₃, X₃, h₃⟩ => h₃ _ (by simp) base A s₃ o Bs X₃) fun _ _ e => e)

theorem EV_method_own {ob : Expr} {name : Str} {apos pos : Pos} {args : List Expr} {pl : Sem Bool}
    (h : EV D n L (eval ob env) S m fun o S m => Met D n L name o S m fun g first S m => ∃ f, g = .ref f ∧ keepIn (KK D.w.params) (.ref f) = true ∧ Args D n L env pos args S m fun vs S m => CallW D n L (.ref f) (first ++ vs) S m Q)
    (he : eval (.Call (.Attribute ob name apos) args [] pos) env = (do
      let ov ← eval ob env
      standAt apos.atName
      let (f, first) ← holding [ov] (getMethod ov name pl)
      callWith pos f first (backTo pos (starEach args env)) []))
    (hargs : ∃ a r, args = a :: r ∧ starEach (a :: r) env = (false, eval a env) :: starEach r env ∧ (backTo pos (starEach r env)).any (·.1) = false) :
    EV D n L (eval (.Call (.Attribute ob name apos) args [] pos) env) S m Q := fun base A s o Bs X => by
  refine MethodCall_ (W.go h o Bs X fun a s₁ S₁ m₁ X₁ h₁ => wpAny_mono (h₁ a pl rfl base A s₁ o Bs X₁) (fun r s₂ z => ?_) fun _ _ e => e) he
  obtain ⟨S₂, m₂, X₂, f, hf, hk, h₂⟩ := z
  obtain ⟨g, first⟩ := r
  have hf' := er_ref hf
  dsimp only at hf' h₂ ⊢
  subst hf'
  obtain ⟨a, r, rfl, h1, h2⟩ := hargs
  exact callWith_K (X₂.K Bs) hk (W.go h₂ o Bs X₂ fun vs s₃ S₃ m₃ X₃ h₃ => ⟨X₃.K Bs, h₃ _ (by simp) base A s₃ o Bs X₃⟩) h1 h2

/-! truth of a test -/
theorem BT_cmp {l r : Expr} {op : CmpOp} {pos : Pos} (hm : behindInMarks op r = false)
    (h : EV D n L (eval l env) S m fun a S m => EV D n L (eval r env) S m fun b S m => Cmp D n L op a b S m fun c S m => Tru D n L c S m B) : BT D n L env (.Compare l [op] [r] pos) S m B := fun base A s o Bs X =>
  wpAny_isTrue_Compare1 (W.go h o Bs X fun a s₁ S₁ m₁ X₁ h₁ => W.go h₁ o Bs X₁ fun b s₂ S₂ m₂ X₂ h₂ =>
    W.go (h₂ a b rfl rfl) o Bs X₂ fun c s₃ S₃ m₃ X₃ h₃ => h₃ c rfl base A s₃ o Bs X₃) hm
theorem BT_not {x : Expr} {pos : Pos} (h : BT D n L env x S m fun b => B (!b)) : BT D n L env (.UnaryOp .Not x pos) S m B := fun base A s o Bs X => wpAny_isTrue_Not (h base A s o Bs X)
theorem BT_op {op : BoolOp} {es : List Expr} {pos : Pos} (h : AT D n L env op es S m B) : BT D n L env (.BoolOp op es pos) S m B := fun base A s o Bs X => wpAny_isTrue_BoolOp (h base A s o Bs X)
theorem BT_val {e : Expr} (h : EV D n L (eval e env) S m fun v S m => Tru D n L v S m B)
    (he : PySem.isTrue e env (eval e env) = (do let v ← eval e env; standAt e.pos; holding [v] (truthy v))) : BT D n L env e S m B := fun base A s o Bs X =>
  wpAny_isTrue_value (W.go h o Bs X fun v s₁ S₁ m₁ X₁ h₁ => h₁ v rfl base A s₁ o Bs X₁) he
theorem AT_and_nil (h : B true S m) : AT D n L env .And [] S m B := fun base A s o Bs X => wpAny_allTrue_And_nil ⟨S, m, X, h⟩
theorem AT_or_nil (h : B false S m) : AT D n L env .Or [] S m B := fun base A s o Bs X => wpAny_allTrue_Or_nil ⟨S, m, X, h⟩
theorem AT_and {x : Expr} {es : List Expr} (h : BT D n L env x S m fun b S m => if b = true then AT D n L env .And es S m B else B false S m) : AT D n L env .And (x :: es) S m B := fun base A s o Bs X =>
  wpAny_allTrue_And_cons (W.go h o Bs X fun b s₁ S₁ m₁ X₁ h₁ => by
    cases b
    · exact ⟨S₁, m₁, X₁, h₁⟩
    · exact h₁ base A s₁ o Bs X₁)
theorem AT_or {x : Expr} {es : List Expr} (h : BT D n L env x S m fun b S m => if b = true then B true S m else AT D n L env .Or es S m B) : AT D n L env .Or (x :: es) S m B := fun base A s o Bs X =>
  wpAny_allTrue_Or_cons (W.go h o Bs X fun b s₁ S₁ m₁ X₁ h₁ => by
    cases b
    · exact h₁ base A s₁ o Bs X₁
    · exact ⟨S₁, m₁, X₁, h₁⟩)
end
end Mine
namespace Mine

section
variable {D : Wd} {n : Nat} {L : Addr} {S : PH} {m : Loc} {nm : List (Str × NameKind)} {env : Env} {base : OH} {s : Shared}
variable {Q : Value → PH → Loc → Prop} {B : Bool → PH → Loc → Prop} {R : Flow → PH → Loc → Prop} {U : Unit → PH → Loc → Prop}

theorem At.notSys {d : Addr} {x : AObj} (X : At D base L S m s) (Bs : Base D base) (h : S d = some x) : (d == sysModules) = false := by
  cases q : d == sysModules with
  | false => rfl
  | true =>
    have e := X.toC.new d x h
    rw [eq_of_beq q] at e
    obtain ⟨mm, o, es, ep, ho, _⟩ := D.sysm
    rw [Bs _ _ ho] at e; cases e

/-! ints -/
theorem Bin_add {i j : Int} (h : Q (.int (i + j) 0) S m) : Bin D n L .Add (.int i 0) (.int j 0) S m Q := fun a' b' ha hb base A s o Bs X => by
  obtain ⟨t, rfl⟩ := er_int ha; obtain ⟨u, rfl⟩ := er_int hb
  exact add_int ⟨S, m, X.tok _, h⟩
theorem Bin_sub {i j : Int} (h : Q (.int (i - j) 0) S m) : Bin D n L .Sub (.int i 0) (.int j 0) S m Q := fun a' b' ha hb base A s o Bs X => by
  obtain ⟨t, rfl⟩ := er_int ha; obtain ⟨u, rfl⟩ := er_int hb
  exact sub_int ⟨S, m, X.tok _, h⟩
theorem Bin_mod {i j : Int} (hj : 0 < j) (h : Q (.int (i % j) 0) S m) : Bin D n L .Mod (.int i 0) (.int j 0) S m Q := fun a' b' ha hb base A s o Bs X => by
  obtain ⟨t, rfl⟩ := er_int ha; obtain ⟨u, rfl⟩ := er_int hb
  refine mod_int' (by (first | lia | omega)) ⟨S, m, X.tok _, ?_⟩
  rw [Int.fmod_eq_emod_of_nonneg _ (by (first | lia | omega))]; exact h
theorem Bin_div {i j : Int} (hj : 0 < j) (hs : j < 2 ^ 30) (h : Q (.int (i / j) 0) S m) : Bin D n L .FloorDiv (.int i 0) (.int j 0) S m Q := fun a' b' ha hb base A s o Bs X => by
  obtain ⟨t, rfl⟩ := er_int ha; obtain ⟨u, rfl⟩ := er_int hb
  refine floordiv_int (by (first | lia | omega)) ⟨S, m, X.tok _, ?_⟩ (.inl ?_)
  · rw [Int.fdiv_eq_ediv_of_nonneg _ (by (first | lia | omega))]; exact h
  · unfold Builtin.divisionGoesByPylong
    have hl : j.natAbs.log2 < 30 := (Nat.log2_lt (by (first | lia | omega))).mpr (by (first | lia | omega))
    have : j.natAbs.log2 / 30 = 0 := by (first | lia | omega)
    simp [this]
    intro q; split at q <;> (first | lia | omega)
theorem Inp_add {i j : Int} (h : Q (.int (i + j) 0) S m) : Inp D n L .Add (.int i 0) (.int j 0) S m Q := fun a' b' ha hb base A s o Bs X => by
  obtain ⟨t, rfl⟩ := er_int ha; obtain ⟨u, rfl⟩ := er_int hb
  exact iadd_int ⟨S, m, X.tok _, h⟩
theorem Inp_sub {i j : Int} (h : Q (.int (i - j) 0) S m) : Inp D n L .Sub (.int i 0) (.int j 0) S m Q := fun a' b' ha hb base A s o Bs X => by
  obtain ⟨t, rfl⟩ := er_int ha; obtain ⟨u, rfl⟩ := er_int hb
  exact isub_int ⟨S, m, X.tok _, h⟩
theorem Uny_neg {i : Int} (h : Q (.int (-i) 0) S m) : Uny D n L .USub (.int i 0) S m Q := fun a' ha base A s o Bs X => by
  obtain ⟨t, rfl⟩ := er_int ha
  exact neg_int ⟨S, m, X.tok _, h⟩
theorem Cmp_eq_int {i j : Int} (h : Q (.bool (i == j)) S m) : Cmp D n L .Eq (.int i 0) (.int j 0) S m Q := fun a' b' ha hb base A s o Bs X => by
  obtain ⟨t, rfl⟩ := er_int ha; obtain ⟨u, rfl⟩ := er_int hb
  exact eq_int ⟨S, m, X, h⟩
theorem Cmp_ne_int {i j : Int} (h : Q (.bool (i != j)) S m) : Cmp D n L .NotEq (.int i 0) (.int j 0) S m Q := fun a' b' ha hb base A s o Bs X => by
  obtain ⟨t, rfl⟩ := er_int ha; obtain ⟨u, rfl⟩ := er_int hb
  exact ne_int ⟨S, m, X, h⟩
theorem Cmp_lt_int {i j : Int} (h : Q (.bool (decide (i < j))) S m) : Cmp D n L .Lt (.int i 0) (.int j 0) S m Q := fun a' b' ha hb base A s o Bs X => by
  obtain ⟨t, rfl⟩ := er_int ha; obtain ⟨u, rfl⟩ := er_int hb
  exact lt_int ⟨S, m, X, h⟩
theorem Cmp_le_int {i j : Int} (h : Q (.bool (decide (i ≤ j))) S m) : Cmp D n L .LtE (.int i 0) (.int j 0) S m Q := fun a' b' ha hb base A s o Bs X => by
  obtain ⟨t, rfl⟩ := er_int ha; obtain ⟨u, rfl⟩ := er_int hb
  exact le_int ⟨S, m, X, h⟩
theorem Cmp_gt_int {i j : Int} (h : Q (.bool (decide (j < i))) S m) : Cmp D n L .Gt (.int i 0) (.int j 0) S m Q := fun a' b' ha hb base A s o Bs X => by
  obtain ⟨t, rfl⟩ := er_int ha; obtain ⟨u, rfl⟩ := er_int hb
  exact gt_int ⟨S, m, X, h⟩
theorem Cmp_ge_int {i j : Int} (h : Q (.bool (decide (j ≤ i))) S m) : Cmp D n L .GtE (.int i 0) (.int j 0) S m Q := fun a' b' ha hb base A s o Bs X => by
  obtain ⟨t, rfl⟩ := er_int ha; obtain ⟨u, rfl⟩ := er_int hb
  exact ge_int ⟨S, m, X, h⟩
theorem Cmp_eq_str {i j : Str} (h : Q (.bool (i == j)) S m) : Cmp D n L .Eq (.str i 0) (.str j 0) S m Q := fun a' b' ha hb base A s o Bs X => by
  obtain ⟨t, rfl⟩ := er_str ha; obtain ⟨u, rfl⟩ := er_str hb
  exact eq_str ⟨S, m, X, h⟩
theorem Cmp_ne_str {i j : Str} (h : Q (.bool (i != j)) S m) : Cmp D n L .NotEq (.str i 0) (.str j 0) S m Q := fun a' b' ha hb base A s o Bs X => by
  obtain ⟨t, rfl⟩ := er_str ha; obtain ⟨u, rfl⟩ := er_str hb
  exact ne_str ⟨S, m, X, h⟩
theorem Cmp_eq_bool {i j : Bool} (h : Q (.bool (i == j)) S m) : Cmp D n L .Eq (.bool i) (.bool j) S m Q := fun a' b' ha hb base A s o Bs X => by
  have := er_bool ha; have := er_bool hb; subst_vars
  exact eq_bool ⟨S, m, X, h⟩
theorem Cmp_ne_bool {i j : Bool} (h : Q (.bool (i != j)) S m) : Cmp D n L .NotEq (.bool i) (.bool j) S m Q := fun a' b' ha hb base A s o Bs X => by
  have := er_bool ha; have := er_bool hb; subst_vars
  exact ne_bool ⟨S, m, X, h⟩
theorem Bin_add_str {x y : Str} (hx : x.length ≤ 100) (hy : y.length ≤ 100) (h : Q (.str (x ++ y) 0) S m) : Bin D n L .Add (.str x 0) (.str y 0) S m Q := fun a' b' ha hb base A s o Bs X => by
  obtain ⟨t, rfl⟩ := er_str ha; obtain ⟨u, rfl⟩ := er_str hb
  exact add_str (fun t' tk => ⟨S, m, X.tok _, h⟩) (by rw [sizeLine_eq]; (first | lia | omega))

/-! truth -/
theorem Tru_bool {b : Bool} (h : B b S m) : Tru D n L (.bool b) S m B := fun a' ha base A s o Bs X => by
  have := er_bool ha; subst this
  exact wpAny_truthy_bool ⟨S, m, X, h⟩
theorem Tru_list {l : Addr} {vs : List Value} (hl : S l = some (.list vs)) (hz : vs.length < 2 ^ 60) (h : B (!vs.isEmpty) S m) : Tru D n L (.ref l) S m B := fun a' ha base A s o Bs X => by
  have := er_ref ha; subst this
  obtain ⟨o, ho, us, k, rfl, hv⟩ := X.here hl
  have hlen : us.size = vs.length := by rw [← hv]; simp
  refine wpAny_truthy_list (items := us) ⟨_, ho, rfl, k, rfl⟩ (by (first | lia | omega)) ⟨S, m, X.tok _, ?_⟩
  have e : us.isEmpty = vs.isEmpty := by
    rw [Array.isEmpty, hlen]; cases vs <;> simp
  rw [e]; exact h

/-! items -/
theorem Sub_tup {value slice : Expr} {t : Addr} {vs : List Value} {k : Int} {v : Value} (ht : S t = some (.tup vs)) (h0 : 0 ≤ k) (h1 : k < 2 ^ 60) (hv : vs[k.toNat]? = some v) (h : Q v S m)
    (hs : ∀ u, subscripted slice false (.ref t) (.int k u) = operate [.ref t, .int k u] (getItem (.ref t) (.int k u))) : Sub D n L value slice (.ref t) (.int k 0) S m Q := fun a' b' ha hb base A s o Bs X => by
  have := er_ref ha; subst this
  obtain ⟨u, rfl⟩ := er_int hb
  obtain ⟨o, ho, us, e, rfl, hu⟩ := X.here ht
  have hx : ∃ x, us.toList[k.toNat]? = some x ∧ er x = v := by
    rw [← hu, List.getElem?_map] at hv
    obtain ⟨x, a, b⟩ := Option.map_eq_some_iff.mp hv
    exact ⟨x, a, b⟩
  obtain ⟨x, hx, he⟩ := hx
  have hlt : k.toNat < us.toList.length := by
    have := List.getElem?_eq_some_iff.mp hx; exact this.1
  refine item_tupleT (l := us.toList) (j := k.toNat) ⟨_, ho, rfl, e, by simp⟩ (by (first | lia | omega)) (by (first | lia | omega)) ?_ hx ⟨S, m, X, by show Q (er x) S m; rw [he]; exact h⟩ (hs u)
  have e1 : ¬ k < 0 := by (first | lia | omega)
  have e2 : k < (us.toList.length : Int) := by (first | lia | omega)
  simp only [seqIndex?, e1, if_false, h0, e2, decide_true, Bool.and_self, if_true]
theorem Sub_list {value slice : Expr} {t : Addr} {vs : List Value} {k : Int} {v : Value} (ht : S t = some (.list vs)) (h0 : 0 ≤ k) (h1 : k < 2 ^ 60) (hv : vs[k.toNat]? = some v) (h : Q v S m)
    (hs : ∀ u, subscripted slice false (.ref t) (.int k u) = operate [.ref t, .int k u] (getItem (.ref t) (.int k u))) : Sub D n L value slice (.ref t) (.int k 0) S m Q := fun a' b' ha hb base A s o Bs X => by
  have := er_ref ha; subst this
  obtain ⟨u, rfl⟩ := er_int hb
  obtain ⟨o, ho, us, e, rfl, hu⟩ := X.here ht
  have hx : ∃ x, us[k.toNat]? = some x ∧ er x = v := by
    rw [← hu, List.getElem?_map, Array.getElem?_toList] at hv
    obtain ⟨x, a, b⟩ := Option.map_eq_some_iff.mp hv
    exact ⟨x, a, b⟩
  obtain ⟨x, hx, he⟩ := hx
  have hl : s.heap.IsList t us := ⟨_, ho, rfl, e, rfl⟩
  refine tail_any hl.typeIs slot_list_getitem.lookup (wpAny_getItem_list hl h0 (by (first | lia | omega)) hx ⟨S, m, X, by show Q (er x) S m; rw [he]; exact h⟩) (hs u)
theorem intKey (w : World) (k : Int) (u : Tok) : (intKind pw w).is k (.int k u) = true := by simp [intKind, Value.isInt]
theorem valueAt_map (kvs : List (Int × Value)) (k : Int) : valueAt (kvs.map fun p => (p.1, er p.2)) k = (valueAt kvs k).map er := by
  induction kvs with
  | nil => rfl
  | cons p r ih =>
    unfold valueAt at ih ⊢
    simp only [List.map_cons, List.find?_cons]
    by_cases h : p.1 = k
    · simp [h]
    · simp only [h, decide_false]
      exact ih
theorem At.dictAt {d : Addr} {kvs : List (Int × Value)} {ep : Nat} (X : At D base L S m s) (h : S d = some (.dict kvs ep)) :
    ∃ kvs', s.heap.DictAt (intKind pw D.w) d kvs' ep ∧ kvs'.map (fun p => (p.1, er p.2)) = kvs := by
  obtain ⟨o, ho, kvs', es, hd, he⟩ := X.here h
  exact ⟨kvs', ⟨o, es, ho, hd⟩, he⟩
theorem At.dict {d : Addr} {kvs : List (Int × Value)} {ep : Nat} (X : At D base L S m s) (h : S d = some (.dict kvs ep)) :
    ∃ kvs', s.heap.DictOf (intKind pw D.w) d kvs' ∧ kvs'.map (fun p => (p.1, er p.2)) = kvs :=
  let ⟨kvs', a, b⟩ := X.dictAt h; ⟨kvs', a.dictOf, b⟩
theorem orep_dict {w : World} {h : Heap} {d : Addr} {kvs' kvs : List (Int × Value)} (x : h.DictOf (intKind pw w) d kvs') (e : kvs'.map (fun p => (p.1, er p.2)) = kvs) : ∃ o ep, h.get? d = some o ∧ ORep w (.dict kvs ep) o := by
  obtain ⟨o, es, ep, ho, r⟩ := x
  exact ⟨o, ep, ho, kvs', es, r, e⟩
theorem Sub_dict {value slice : Expr} {d : Addr} {kvs : List (Int × Value)} {ep : Nat} {k : Int} {v : Value} (hd : S d = some (.dict kvs ep)) (hv : valueAt kvs k = some v) (h : Q v S m)
    (hs : ∀ u, subscripted slice false (.ref d) (.int k u) = operate [.ref d, .int k u] (getItem (.ref d) (.int k u))) : Sub D n L value slice (.ref d) (.int k 0) S m Q := fun a' b' ha hb base A s o Bs X => by
  have := er_ref ha; subst this
  obtain ⟨u, rfl⟩ := er_int hb
  obtain ⟨kvs', D', he⟩ := X.dict hd
  rw [← he, valueAt_map] at hv
  obtain ⟨x, hx, hxe⟩ := Option.map_eq_some_iff.mp hv
  exact tail_any D'.typeIs slot_dict_getitem.lookup (wpAny_getItem_of (intKey _ _ _) D'.mapOf hx ⟨S, m, X.tok _, by show Q (er x) S m; rw [hxe]; exact h⟩) (hs u)
theorem Cmp_in_dict {d : Addr} {kvs : List (Int × Value)} {ep : Nat} {k : Int} (hd : S d = some (.dict kvs ep)) (h : Q (.bool (valueAt kvs k).isSome) S m) : Cmp D n L .In (.int k 0) (.ref d) S m Q := fun a' b' ha hb base A s o Bs X => by
  have := er_ref hb; subst this
  obtain ⟨u, rfl⟩ := er_int ha
  obtain ⟨kvs', D', he⟩ := X.dict hd
  rw [← he, valueAt_map, Option.isSome_map] at h
  exact wpAny_in_of (intKey _ _ _) (X.notSys Bs hd) D'.mapOf ⟨S, m, X.tok _, h⟩
theorem Cmp_notin_dict {d : Addr} {kvs : List (Int × Value)} {ep : Nat} {k : Int} (hd : S d = some (.dict kvs ep)) (h : Q (.bool (!(valueAt kvs k).isSome)) S m) : Cmp D n L .NotIn (.int k 0) (.ref d) S m Q := fun a' b' ha hb base A s o Bs X => by
  have := er_ref hb; subst this
  obtain ⟨u, rfl⟩ := er_int ha
  obtain ⟨kvs', D', he⟩ := X.dict hd
  rw [← he, valueAt_map, Option.isSome_map] at h
  exact wpAny_notIn_of (intKey _ _ _) (X.notSys Bs hd) D'.mapOf ⟨S, m, X.tok _, h⟩
theorem stored_map (kvs : List (Int × Value)) (k : Int) (v : Value) : (stored kvs k v).map (fun p => (p.1, er p.2)) = stored (kvs.map fun p => (p.1, er p.2)) k (er v) := by
  unfold stored
  have e : ((kvs.map fun p => (p.1, er p.2)).any fun kv => decide (kv.1 = k)) = kvs.any fun kv => decide (kv.1 = k) := by rw [List.any_map]; rfl
  rw [e]
  cases q : kvs.any fun kv => decide (kv.1 = k) with
  | false => simp
  | true =>
    simp only [if_true, List.map_map]
    refine List.map_congr_left fun p _ => ?_
    by_cases h : p.1 = k <;> simp [h]
theorem SetI_dict {d : Addr} {kvs : List (Int × Value)} {ep : Nat} {k : Int} {v : Value} (hd : S d = some (.dict kvs ep)) (hz : kvs.length ≤ 1000) (h : ∀ ep', U () (S.set d (.dict (stored kvs k v) ep')) m) : SetI D n L (.ref d) (.int k 0) v S m U :=
  fun a' i' v' ha hi hv base A s o Bs X => by
  have := er_ref ha; subst this
  obtain ⟨u, rfl⟩ := er_int hi
  obtain ⟨kvs', D', he⟩ := X.dict hd
  have hlen : kvs'.length = kvs.length := by rw [← he]; simp
  refine wpAny_setItem_pairs (intKey _ _ _) D' (fun h' D'' hs => ?_) (by rw [sizeLine_eq]; (first | lia | omega))
  obtain ⟨o', ep', ho', r⟩ := orep_dict (kvs := stored kvs k v) D'' (by rw [stored_map, he, hv])
  exact ⟨_, m, X.put hd rfl (fun b hb => hs.2 b hb) rfl rfl ho' r, h ep'⟩
theorem SetI_list {l : Addr} {vs : List Value} {k : Int} {v : Value} (hl : S l = some (.list vs)) (h0 : 0 ≤ k) (h1 : k < vs.length) (hz : vs.length ≤ 1000) (h : U () (S.set l (.list (vs.set k.toNat v))) m) : SetI D n L (.ref l) (.int k 0) v S m U :=
  fun a' i' v' ha hi hv base A s o Bs X => by
  have := er_ref ha; subst this
  obtain ⟨u, rfl⟩ := er_int hi
  obtain ⟨o, ho, us, e, rfl, hu⟩ := X.here hl
  have hlen : us.size = vs.length := by rw [← hu]; simp
  refine ki_setAt (n := e) ho h0 (by (first | lia | omega)) (by (first | lia | omega)) ⟨_, m, X.put (x' := .list (vs.set k.toNat v)) hl rfl (fun b hb => (Heap.SameBut.update ..).2 b hb) rfl rfl (IsL.update ho _) ⟨_, _, rfl, ?_⟩, h⟩
  subst hv
  rw [← hu, Array.toList_setIfInBounds, List.map_set]
end
end Mine
namespace Mine

section
variable {D : Wd} {n : Nat} {L : Addr} {S : PH} {m : Loc} {nm : List (Str × NameKind)} {env : Env} {base : OH} {s : Shared}
variable {Q : Value → PH → Loc → Prop} {B : Bool → PH → Loc → Prop} {R : Flow → PH → Loc → Prop} {U : Unit → PH → Loc → Prop}

theorem At.listStep {l : Addr} {vs ws : List Value} {us : Array Value} {k : Nat} (X : At D base L S m s) (hl : S l = some (.list vs)) (ho : s.heap.get? l = some { cls := .type "list", data := .seq us k })
    (f : Array Value → Array Value) (hf : (f us).toList.map er = ws) : At D base L (S.set l (.list ws)) m { s with heap := s.heap.update l (Obj.mapSeq f) } :=
  X.put (x' := .list ws) hl rfl (fun b hb => (Heap.SameBut.update ..).2 b hb) rfl rfl (IsL.update ho f) ⟨_, _, rfl, hf⟩

theorem Met_list {name : Str} {id : String} {l : Addr} {vs : List Value} {Q : Value → List Value → PH → Loc → Prop} (slot : Slot "list" name id) (hty : typeOf (.builtin id) = pure (.type "method_descriptor"))
    (hl : S l = some (.list vs)) (h : Q (.builtin id) [.ref l] S m) : Met D n L name (.ref l) S m Q := fun a' pl ha base A s o Bs X => by
  have := er_ref ha; subst this
  obtain ⟨o, ho, us, k, rfl, hv⟩ := X.here hl
  exact getMethod_builtin ⟨_, ho, rfl⟩ PySem.F.plainAttrs_list slot hty (fun a e => by cases e; exact ⟨_, ho, rfl⟩) ⟨S, m, X, h⟩
theorem Met_dict {name : Str} {id : String} {l : Addr} {kvs : List (Int × Value)} {ep : Nat} {Q : Value → List Value → PH → Loc → Prop} (slot : Slot "dict" name id) (hty : typeOf (.builtin id) = pure (.type "method_descriptor"))
    (hl : S l = some (.dict kvs ep)) (h : Q (.builtin id) [.ref l] S m) : Met D n L name (.ref l) S m Q := fun a' pl ha base A s o Bs X => by
  have := er_ref ha; subst this
  obtain ⟨o, ho, kvs', es, ⟨hd, r⟩, hv⟩ := X.here hl
  exact getMethod_builtin ⟨_, ho, hd.1⟩ PySem.F.plainAttrs_dict slot hty (fun a e => by cases e; exact ⟨_, ho, hd.2.1⟩) ⟨S, m, X, h⟩

section
variable {Q : Value → List Value → PH → Loc → Prop} {l : Addr} {vs : List Value} {kvs : List (Int × Value)} {ep : Nat}
theorem Met_append (hl : S l = some (.list vs)) (h : Q (.builtin "list.append") [.ref l] S m) : Met D n L (Str.ofString "append") (.ref l) S m Q := Met_list PySem.F.slot_list_append PySem.F.type_list_append hl h
theorem Met_pop (hl : S l = some (.list vs)) (h : Q (.builtin "list.pop") [.ref l] S m) : Met D n L (Str.ofString "pop") (.ref l) S m Q := Met_list PySem.F.slot_list_pop PySem.F.type_list_pop hl h
theorem Met_insert (hl : S l = some (.list vs)) (h : Q (.builtin "list.insert") [.ref l] S m) : Met D n L (Str.ofString "insert") (.ref l) S m Q := Met_list PySem.F.slot_list_insert PySem.F.type_list_insert hl h
theorem Met_extend (hl : S l = some (.list vs)) (h : Q (.builtin "list.extend") [.ref l] S m) : Met D n L (Str.ofString "extend") (.ref l) S m Q := Met_list PySem.F.slot_list_extend PySem.F.type_list_extend hl h
theorem Met_reverse (hl : S l = some (.list vs)) (h : Q (.builtin "list.reverse") [.ref l] S m) : Met D n L (Str.ofString "reverse") (.ref l) S m Q := Met_list PySem.F.slot_list_reverse PySem.F.type_list_reverse hl h
theorem Met_setdefault (hl : S l = some (.dict kvs ep)) (h : Q (.builtin "dict.setdefault") [.ref l] S m) : Met D n L (Str.ofString "setdefault") (.ref l) S m Q := Met_dict PySem.F.slot_dict_setdefault PySem.F.type_dict_setdefault hl h
theorem Met_dget (hl : S l = some (.dict kvs ep)) (h : Q (.builtin "dict.get") [.ref l] S m) : Met D n L (Str.ofString "get") (.ref l) S m Q := Met_dict PySem.F.slot_dict_get PySem.F.type_dict_get hl h
theorem Met_dpop (hl : S l = some (.dict kvs ep)) (h : Q (.builtin "dict.pop") [.ref l] S m) : Met D n L (Str.ofString "pop") (.ref l) S m Q := Met_dict PySem.F.slot_dict_pop PySem.F.type_dict_pop hl h
end
theorem map1 {vs' : List Value} {a : Value} (h : vs'.map er = [a]) : ∃ a', vs' = [a'] ∧ er a' = a := by
  obtain ⟨x, l, e1, e2, e3⟩ := List.map_eq_cons_iff.mp h
  exact ⟨x, by rw [e1, List.map_eq_nil_iff.mp e3], e2⟩
theorem map2 {vs' : List Value} {a b : Value} (h : vs'.map er = [a, b]) : ∃ a' b', vs' = [a', b'] ∧ er a' = a ∧ er b' = b := by
  obtain ⟨x, l, e1, e2, e3⟩ := List.map_eq_cons_iff.mp h
  obtain ⟨y, e4, e5⟩ := map1 e3
  exact ⟨x, y, by rw [e1, e4], e2, e5⟩
theorem map3 {vs' : List Value} {a b c : Value} (h : vs'.map er = [a, b, c]) : ∃ a' b' c', vs' = [a', b', c'] ∧ er a' = a ∧ er b' = b ∧ er c' = c := by
  obtain ⟨x, l, e1, e2, e3⟩ := List.map_eq_cons_iff.mp h
  obtain ⟨y, z, e4, e5, e6⟩ := map2 e3
  exact ⟨x, y, z, by rw [e1, e4], e2, e5, e6⟩

theorem CallW_append {l : Addr} {vs : List Value} {v : Value} (hl : S l = some (.list vs)) (hz : vs.length ≤ 10000) (h : Q .none (S.set l (.list (vs ++ [v]))) m) :
    CallW D n L (.builtin "list.append") [.ref l, v] S m Q := fun vs' hv base A s o Bs X => by
  obtain ⟨a', b', rfl, ha, hb⟩ := map2 hv
  have := er_ref ha; subst this
  obtain ⟨o, ho, us, k, rfl, hu⟩ := X.here hl
  have hlen : us.size = vs.length := by rw [← hu]; simp
  exact call_meets PySem.F.slot_list_append ⟨_, ho, rfl⟩ PySem.F.entry_list_append (PySem.F.args_list_append_2 _ _) (PySem.list_append l us k b' (by rw [sizeLine_eq]; (first | lia | omega)))
    ⟨ho, _, _, X.listStep hl ho _ (by simp [hu, hb]), h⟩
theorem CallW_pop {l : Addr} {vs : List Value} {v : Value} (hl : S l = some (.list (vs ++ [v]))) (hz : vs.length ≤ 10000) (h : Q v (S.set l (.list vs)) m) :
    CallW D n L (.builtin "list.pop") [.ref l] S m Q := fun vs' hv base A s o Bs X => by
  obtain ⟨a', rfl, ha⟩ := map1 hv
  have := er_ref ha; subst this
  obtain ⟨o, ho, us, k, rfl, hu⟩ := X.here hl
  obtain ⟨p, y, e, hp, hy⟩ : ∃ p y, us = (p ++ [y]).toArray ∧ p.map er = vs ∧ er y = v := by
    have := List.map_eq_append_iff.mp hu
    obtain ⟨p, q, e1, e2, e3⟩ := this
    obtain ⟨y, rfl, hy⟩ := map1 e3
    exact ⟨p, y, by rw [← e1, Array.toArray_toList], e2, hy⟩
  subst e
  have hlen : (p ++ [y]).toArray.size = vs.length + 1 := by simp [← hp]
  have hk : (p ++ [y]).toArray.size - 1 = p.length := by rw [List.size_toArray, List.length_append]; rfl
  refine call_meets PySem.F.slot_list_pop ⟨_, ho, rfl⟩ PySem.F.entry_list_pop (PySem.F.args_list_pop_1 _) (PySem.MeetsSeq.list_pop_last l _ k y (by rw [hk]; simp) (by rw [sizeLine_eq]; (first | lia | omega)))
    ⟨ho, _, _, X.listStep hl ho _ (ws := vs) ?_, by show Q (er y) _ _; rw [hy]; exact h⟩
  rw [hk, kl_erase, List.append_nil]; exact hp
theorem CallW_insert {l : Addr} {vs : List Value} {v : Value} {x : Int} (hl : S l = some (.list vs)) (h0 : 0 ≤ x) (hx : x ≤ vs.length) (hz : vs.length ≤ 10000)
    (h : Q .none (S.set l (.list (vs.take x.toNat ++ v :: vs.drop x.toNat))) m) :
    CallW D n L (.builtin "list.insert") [.ref l, .int x 0, v] S m Q := fun vs' hv base A s o Bs X => by
  obtain ⟨a', b', c', rfl, ha, hb, hc⟩ := map3 hv
  have := er_ref ha; subst this
  obtain ⟨u, rfl⟩ := er_int hb
  obtain ⟨o, ho, us, k, rfl, hu⟩ := X.here hl
  have hlen : us.size = vs.length := by rw [← hu]; simp
  obtain ⟨li, rfl⟩ : ∃ li : List Value, us = li.toArray := ⟨us.toList, by rw [Array.toArray_toList]⟩
  simp only [List.size_toArray] at hlen
  have hf : Builtin.List.listFitsIndex x = true := fitsIndex_of h0 (by (first | lia | omega))
  refine call_meets PySem.F.slot_list_insert ⟨_, ho, rfl⟩ PySem.F.entry_list_insert (PySem.F.args_list_insert_3 _ _ _) (PySem.AutoSeq1.list_insert_list_int_val_1 l _ k x u c' (by simp [hf]) (by rw [List.size_toArray, sizeLine_eq]; (first | lia | omega)))
    ⟨ho, _, _, X.listStep hl ho _ (ws := vs.take x.toNat ++ v :: vs.drop x.toNat) ?_, h⟩
  have e1 : ¬ x < 0 := by (first | lia | omega)
  have e2 : min x.toNat li.toArray.size = x.toNat := by rw [List.size_toArray]; (first | lia | omega)
  simp only [e1, if_false, e2]
  rw [kl_ins_eq]
  simp only [List.map_append, List.map_cons, List.map_take, List.map_drop, hc]
  rw [← hu]
theorem CallW_reverse {l : Addr} {vs : List Value} (hl : S l = some (.list vs)) (hz : vs.length ≤ 10000) (h : Q .none (S.set l (.list vs.reverse)) m) :
    CallW D n L (.builtin "list.reverse") [.ref l] S m Q := fun vs' hv base A s o Bs X => by
  obtain ⟨a', rfl, ha⟩ := map1 hv
  have := er_ref ha; subst this
  obtain ⟨o, ho, us, k, rfl, hu⟩ := X.here hl
  have hlen : us.size = vs.length := by rw [← hu]; simp
  exact call_meets PySem.F.slot_list_reverse ⟨_, ho, rfl⟩ PySem.F.entry_list_reverse (PySem.F.args_list_reverse_1 _) (PySem.AutoSeq1.list_reverse_list_0 l us k (by rw [sizeLine_eq]; (first | lia | omega)))
    ⟨ho, _, _, X.listStep hl ho _ (ws := vs.reverse) (by simp [← hu]), h⟩

/-! dicts -/
theorem CallW_setdefault {d : Addr} {kvs : List (Int × Value)} {ep : Nat} {k : Int} {v : Value} (hd : S d = some (.dict kvs ep)) (hz : kvs.length ≤ 1000)
    (h1 : ∀ x, valueAt kvs k = some x → Q x S m) (h2 : valueAt kvs k = none → ∀ ep', Q v (S.set d (.dict (stored kvs k v) ep')) m) :
    CallW D n L (.builtin "dict.setdefault") [.ref d, .int k 0, v] S m Q := fun vs' hv base A s o Bs X => by
  obtain ⟨a', b', c', rfl, ha, hb, hc⟩ := map3 hv
  have := er_ref ha; subst this
  obtain ⟨u, rfl⟩ := er_int hb
  obtain ⟨kvs', D', he⟩ := X.dict hd
  have hlen : kvs'.length = kvs.length := by rw [← he]; simp
  have hva : valueAt kvs k = (valueAt kvs' k).map er := by rw [← he, valueAt_map]
  refine call_meetsIn PySem.F.slot_dict_setdefault D'.typeIs PySem.F.entry_dict_setdefault (PySem.F.args_dict_setdefault_3 _ _ _) (kt_meets_setdefault (intKind pw D.w) d (intKey _ _ _) (X.notSys Bs hd) c') ⟨kvs', D', by rw [sizeLine_eq]; (first | lia | omega), ?_, ?_⟩
  · intro x hx
    exact ⟨S, m, X.tok _, h1 _ (by rw [hva, hx]; rfl)⟩
  · intro hx h' D'' hs
    obtain ⟨o', ep', ho', r⟩ := orep_dict (kvs := stored kvs k v) D'' (by rw [stored_map, he, hc])
    exact ⟨_, m, X.put hd rfl (fun b hb => hs.2 b hb) rfl rfl ho' r, by show Q (er c') _ _; rw [hc]; exact h2 (by rw [hva, hx]; rfl) ep'⟩
theorem CallW_dget {d : Addr} {kvs : List (Int × Value)} {ep : Nat} {k : Int} {v : Value} (hd : S d = some (.dict kvs ep)) (h : Q ((valueAt kvs k).getD v) S m) :
    CallW D n L (.builtin "dict.get") [.ref d, .int k 0, v] S m Q := fun vs' hv base A s o Bs X => by
  obtain ⟨a', b', c', rfl, ha, hb, hc⟩ := map3 hv
  have := er_ref ha; subst this
  obtain ⟨u, rfl⟩ := er_int hb
  obtain ⟨kvs', D', he⟩ := X.dict hd
  have hva : valueAt kvs k = (valueAt kvs' k).map er := by rw [← he, valueAt_map]
  refine call_meetsIn PySem.F.slot_dict_get D'.typeIs PySem.F.entry_dict_get (PySem.F.args_dict_get_3 _ _ _) (meets_dict_get_default (intKind pw D.w) d (intKey _ _ _) (X.notSys Bs hd) c') ⟨_, D'.mapOf, S, m, X.tok _, ?_⟩
  show Q (er ((valueAt kvs' k).getD c')) S m
  rw [hva] at h
  cases q : valueAt kvs' k with
  | none => rw [q] at h; simpa [hc] using h
  | some x => rw [q] at h; exact h
theorem without_map (kvs : List (Int × Value)) (k : Int) : (without kvs k).map (fun p => (p.1, er p.2)) = without (kvs.map fun p => (p.1, er p.2)) k := by
  unfold without
  rw [List.filter_map]; rfl
theorem CallW_dpop {d : Addr} {kvs : List (Int × Value)} {ep : Nat} {k : Int} {x : Value} (hd : S d = some (.dict kvs ep)) (hz : kvs.length ≤ 1000) (hx : valueAt kvs k = some x)
    (h : ∀ ep', Q x (S.set d (.dict (without kvs k) ep')) m) : CallW D n L (.builtin "dict.pop") [.ref d, .int k 0] S m Q := fun vs' hv base A s o Bs X => by
  obtain ⟨a', b', rfl, ha, hb⟩ := map2 hv
  have := er_ref ha; subst this
  obtain ⟨u, rfl⟩ := er_int hb
  obtain ⟨kvs', D', he⟩ := X.dict hd
  have hlen : kvs'.length = kvs.length := by rw [← he]; simp
  have hva : valueAt kvs k = (valueAt kvs' k).map er := by rw [← he, valueAt_map]
  rw [hva] at hx
  obtain ⟨y, hy, hye⟩ := Option.map_eq_some_iff.mp hx
  refine call_meetsIn PySem.F.slot_dict_pop D'.typeIs PySem.F.entry_dict_pop (PySem.F.args_dict_pop_2 _ _) (meets_dict_pop_there (intKind pw D.w) d (intKey _ _ u) [] (.inl rfl) rfl) ⟨kvs', y, D', by rw [sizeLine_eq]; (first | lia | omega), hy, fun h' D'' hs => ?_⟩
  obtain ⟨o', ep', ho', r⟩ := orep_dict (kvs := without kvs k) D'' (by rw [without_map, he])
  exact ⟨_, m, X.put hd rfl (fun b hb => hs.2 b hb) rfl rfl ho' r, by show Q (er y) _ _; rw [hye]; exact h ep'⟩
end
end Mine
namespace Mine

noncomputable def PH.erase (S : PH) (a : Addr) : PH := fun b => if b = a then none else S b
theorem PH.erase_ne {S : PH} {a b : Addr} (h : b ≠ a) : S.erase a b = S b := by simp [PH.erase, h]
@[simp] theorem PH.erase_same (S : PH) (a : Addr) : S.erase a a = none := by simp [PH.erase]
theorem PH.erase_some {S : PH} {a b : Addr} {x : AObj} (h : S.erase a b = some x) : b ≠ a ∧ S b = some x := by
  unfold PH.erase at h; split at h
  · cases h
  · exact ⟨by assumption, h⟩

/-- what follows a statement -/
noncomputable def Seq (D : Wd) (n : Nat) (L : Addr) (env : Env) (rest : List Stmt) (R : Flow → PH → Loc → Prop) (f : Flow) (S : PH) (m : Loc) : Prop := match f with
  | .next => EX D n L (execs rest env) S m R
  | f => R f S m

section
variable {D : Wd} {n : Nat} {L : Addr} {S : PH} {m : Loc} {nm : List (Str × NameKind)} {env : Env} {base : OH} {s s' : Shared} {rest : List Stmt}
variable {Q : Value → PH → Loc → Prop} {B : Bool → PH → Loc → Prop} {R : Flow → PH → Loc → Prop} {U : Unit → PH → Loc → Prop}

theorem Seq_next (h : EX D n L (execs rest env) S m R) : Seq D n L env rest R .next S m := h
theorem Seq_ret {v : Value} (h : R (.ret v) S m) : Seq D n L env rest R (.ret v) S m := h
theorem Seq_brk (h : R .brk S m) : Seq D n L env rest R .brk S m := h
theorem Seq_cont (h : R .cont S m) : Seq D n L env rest R .cont S m := h

theorem EX_nil (h : R .next S m) : EX D n L (execs [] env) S m R := fun base A s o Bs X => wpAny_execs_nil ⟨S, m, X, h⟩
theorem EX_cons {st : Stmt} (h : EX D n L (exec st env) S m (Seq D n L env rest R)) : EX D n L (execs (st :: rest) env) S m R := fun base A s o Bs X =>
  wpAny_execs_cons (W.go h o Bs X fun f s₁ S₁ m₁ X₁ h₁ => by
    cases f
    · exact h₁ base A s₁ o Bs X₁
    · exact ⟨S₁, m₁, X₁, h₁⟩
    · exact ⟨S₁, m₁, X₁, h₁⟩
    · exact ⟨S₁, m₁, X₁, h₁⟩)

theorem EX_assign {x : Str} {p pos : Pos} {value : Expr} (fe : FE L nm env) (hl : nm.lookup x = some .local)
    (h : EV D n L (eval value env) S m fun v S m => EX D n L (execs rest env) S (m.set x v) R)
    (hs : swapsWith value (some (.Name x p)) pos.line env = pure false) : EX D n L (execs (.Assign [.Name x p] value pos :: rest) env) S m R := by
  refine EX_cons fun base A s o Bs X => wpAny_Assign_Name (wpAny_mono (h base A s o Bs X) (fun v s₁ z => ?_) fun _ _ e => e) hs
  obtain ⟨S₁, m₁, X₁, h₁⟩ := z
  exact W_store (Q := fun _ S m => EX D n L (execs rest env) S m R) fe hl h₁ base A s₁ o Bs X₁
theorem EX_assign_attr {ob : Expr} {attr : Str} {p pos : Pos} {value : Expr}
    (h : EV D n L (eval value env) S m fun v S m => EV D n L (eval ob env) S m fun a S m => SetA D n L attr a v S m fun _ S m => EX D n L (execs rest env) S m R)
    (hs : swapsWith value (some (.Attribute ob attr p)) pos.line env = pure false) : EX D n L (execs (.Assign [.Attribute ob attr p] value pos :: rest) env) S m R :=
  EX_cons fun base A s o Bs X => plainObj_wpAny_Assign_Attribute (W.go h o Bs X fun v s₁ S₁ m₁ X₁ h₁ => W.go h₁ o Bs X₁ fun a s₂ S₂ m₂ X₂ h₂ => h₂ a v rfl rfl base A s₂ o Bs X₂) hs
theorem EX_assign_item {ob i : Expr} {p pos : Pos} {value : Expr}
    (h : EV D n L (eval value env) S m fun v S m => EV D n L (eval ob env) S m fun a S m => EV D n L (eval i env) S m fun k S m => SetI D n L a k v S m fun _ S m => EX D n L (execs rest env) S m R)
    (hs : swapsWith value (some (.Subscript ob i p)) pos.line env = pure false) : EX D n L (execs (.Assign [.Subscript ob i p] value pos :: rest) env) S m R :=
  EX_cons fun base A s o Bs X => wpAny_Assign_Subscript (W.go h o Bs X fun v s₁ S₁ m₁ X₁ h₁ => W.go h₁ o Bs X₁ fun a s₂ S₂ m₂ X₂ h₂ =>
    W.go h₂ o Bs X₂ fun k s₃ S₃ m₃ X₃ h₃ => h₃ a k v rfl rfl rfl base A s₃ o Bs X₃) hs
theorem EX_aug {x : Str} {p pos : Pos} {op : Operator} {value : Expr} {old : Value} (fe : FE L nm env) (hl : nm.lookup x = some .local) (hv : m x = some old)
    (h : EV D n L (eval value env) S m fun v S m => Inp D n L op old v S m fun r S m => EX D n L (execs rest env) S (m.set x r) R) :
    EX D n L (execs (.AugAssign (.Name x p) op value pos :: rest) env) S m R := by
  refine EX_cons fun base A s o Bs X => wpAny_AugAssign_Name ?_
  obtain ⟨m', hn, hm⟩ := X.ns
  have e := hm x
  rw [hv] at e
  obtain ⟨u, hu, he⟩ := Option.map_eq_some_iff.mp e
  refine wpAny_loadName_local fe.k (fe.kindOf hl) (by rw [fe.l]; exact hn) hu ?_
  refine W.go h o Bs X fun v s₁ S₁ m₁ X₁ h₁ => wpAny_mono (h₁ u v he rfl base A s₁ o Bs X₁) (fun r s₂ z => ?_) fun _ _ e => e
  obtain ⟨S₂, m₂, X₂, h₂⟩ := z
  exact W_store (Q := fun _ S m => EX D n L (execs rest env) S m R) fe hl h₂ base A s₂ o Bs X₂
theorem EX_aug_attr {ob : Expr} {attr : Str} {p pos : Pos} {op : Operator} {value : Expr}
    (h : EV D n L (eval ob env) S m fun a S m => GetA D n L attr a S m fun old S m => EV D n L (eval value env) S m fun v S m => Inp D n L op old v S m fun r S m => SetA D n L attr a r S m fun _ S m => EX D n L (execs rest env) S m R) :
    EX D n L (execs (.AugAssign (.Attribute ob attr p) op value pos :: rest) env) S m R :=
  EX_cons fun base A s o Bs X => wpAny_AugAssign_AttributeAny (W.go h o Bs X fun a s₁ S₁ m₁ X₁ h₁ => W.go (h₁ a rfl) o Bs X₁ fun old s₂ S₂ m₂ X₂ h₂ =>
    W.go h₂ o Bs X₂ fun v s₃ S₃ m₃ X₃ h₃ => W.go (h₃ old v rfl rfl) o Bs X₃ fun r s₄ S₄ m₄ X₄ h₄ => h₄ a r rfl rfl base A s₄ o Bs X₄)
theorem EX_if {test : Expr} {body orelse : List Stmt} {pos : Pos}
    (h : BT D n L env test S m fun b S m => if b = true then EX D n L (execs body env) S m (Seq D n L env rest R) else EX D n L (execs orelse env) S m (Seq D n L env rest R)) :
    EX D n L (execs (.If test body orelse pos :: rest) env) S m R :=
  EX_cons fun base A s o Bs X => wpAny_If (W.go h o Bs X fun b s₁ S₁ m₁ X₁ h₁ => by cases b <;> exact h₁ base A s₁ o Bs X₁)
theorem EX_ret {e : Expr} {pos : Pos} (h : EV D n L (eval e env) S m fun v S m => R (.ret v) S m) : EX D n L (execs (.Return (some e) pos :: rest) env) S m R :=
  EX_cons fun base A s o Bs X => wpAny_Return_some (h base A s o Bs X)
theorem EX_brk {pos : Pos} (h : R .brk S m) : EX D n L (execs (.Break pos :: rest) env) S m R := EX_cons fun base A s o Bs X => wpAny_Break ⟨S, m, X, h⟩
theorem EX_expr {e : Expr} {pos : Pos} (fe : FE L nm env) (h : EV D n L (eval e env) S m fun v S m => EX D n L (execs rest env) S m R) (hs : swapsWith e none pos.line env = pure false) :
    EX D n L (execs (.Expr e pos :: rest) env) S m R :=
  EX_cons fun base A s o Bs X => wpAny_Expr_any (wpAny_mono (h base A s o Bs X) (fun v s₁ h₁ => h₁) fun _ _ e => e) (by unfold interactive; rw [fe.k]; rfl) hs

/-- an assignment to a target -/
noncomputable def Asn (D : Wd) (n : Nat) (L : Addr) (env : Env) (target : Expr) (v : Value) (S : PH) (m : Loc) (U : PH → Loc → Prop) : Prop := ∀ v', er v' = v → W D n L (assign target env v') S m fun _ => U
theorem Asn_name {x : Str} {p : Pos} {v : Value} {U : PH → Loc → Prop} (fe : FE L nm env) (hl : nm.lookup x = some .local) (h : U S (m.set x v)) : Asn D n L env (.Name x p) v S m U := fun v' hv base A s o Bs X => by
  subst hv
  exact wpAny_assign_Name (W_store (Q := fun _ => U) fe hl h base A s o Bs X)
theorem Asn_tup2 {x y : Str} {p q pos : Pos} {k : Nat} {t : Addr} {v w : Value} {U : PH → Loc → Prop} (fe : FE L nm env) (hx : nm.lookup x = some .local) (hy : nm.lookup y = some .local) (ht : S t = some (.tup [v, w]))
    (h : U S ((m.set x v).set y w)) : Asn D n L env (.Tuple [.Name x p, .Name y q] k pos) (.ref t) S m U := fun v' hv base A s o Bs X => by
  have := er_ref hv; subst this
  obtain ⟨ob, ho, us, e, rfl, hu⟩ := X.here ht
  obtain ⟨a, b, hab, ha, hb⟩ := map2 hu
  refine wpAny_assign_Tuple o.1 ⟨_, ho, rfl, e, rfl⟩ (by have : us.size = 2 := by (have := congrArg List.length hab; simpa using this)
                                                         rw [this]; rfl) rfl fun h' hx' => ?_
  have fr : ∀ b o, s.heap.get? b = some o → h'.get? b = some o := fun b o e => hx' b o (Nat.ne_of_lt (Heap.lt_size e)) e
  rw [hab]
  have X' : At D base L S m { s with heap := h' } := X.ext fr rfl rfl
  show wpAny _ A (do holding [b] (assign (.Name x p) env a); do holding [] (assign (.Name y q) env b); pure ()) _ _ _
  refine wpAny_bind (wpAny_holding (wpAny_assign_Name ?_))
  refine W_store (Q := fun _ S m => W D n L (do holding [] (assign (.Name y q) env b); pure ()) S m fun _ => U) fe hx ?_ base A _ o Bs X' |> fun z => wpAny_mono z (fun _ s₁ ⟨S₁, m₁, X₁, h₁⟩ => h₁ base A s₁ o Bs X₁) fun _ _ e => e
  intro base A s o Bs X
  refine wpAny_bind (wpAny_holding (wpAny_assign_Name ?_))
  refine wpAny_mono (W_store (Q := fun _ => U) fe hy (by subst ha hb; exact h) base A s o Bs X) (fun _ s₁ z => wpAny_pure z) fun _ _ e => e
theorem Asn_tup3 {x y z : Str} {p q r pos : Pos} {k : Nat} {t : Addr} {v w u : Value} {U : PH → Loc → Prop} (fe : FE L nm env) (hx : nm.lookup x = some .local) (hy : nm.lookup y = some .local) (hz : nm.lookup z = some .local)
    (ht : S t = some (.tup [v, w, u])) (h : U S (((m.set x v).set y w).set z u)) : Asn D n L env (.Tuple [.Name x p, .Name y q, .Name z r] k pos) (.ref t) S m U := fun v' hv base A s o Bs X => by
  have := er_ref hv; subst this
  obtain ⟨ob, ho, us, e, rfl, hu⟩ := X.here ht
  obtain ⟨a, b, c, hab, ha, hb, hc⟩ := map3 hu
  refine wpAny_assign_Tuple o.1 ⟨_, ho, rfl, e, rfl⟩ (by have : us.size = 3 := by (have := congrArg List.length hab; simpa using this)
                                                         rw [this]; rfl) rfl fun h' hx' => ?_
  have fr : ∀ b o, s.heap.get? b = some o → h'.get? b = some o := fun b o e => hx' b o (Nat.ne_of_lt (Heap.lt_size e)) e
  rw [hab]
  have X' : At D base L S m { s with heap := h' } := X.ext fr rfl rfl
  show wpAny _ A (do holding [b, c] (assign (.Name x p) env a); do holding [c] (assign (.Name y q) env b); do holding [] (assign (.Name z r) env c); pure ()) _ _ _
  refine wpAny_bind (wpAny_holding (wpAny_assign_Name ?_))
  refine W_store (Q := fun _ S m => W D n L (do holding [c] (assign (.Name y q) env b); do holding [] (assign (.Name z r) env c); pure ()) S m fun _ => U) fe hx ?_ base A _ o Bs X' |> fun z => wpAny_mono z (fun _ s₁ ⟨S₁, m₁, X₁, h₁⟩ => h₁ base A s₁ o Bs X₁) fun _ _ e => e
  intro base A s o Bs X
  refine wpAny_bind (wpAny_holding (wpAny_assign_Name ?_))
  refine W_store (Q := fun _ S m => W D n L (do holding [] (assign (.Name z r) env c); pure ()) S m fun _ => U) fe hy ?_ base A _ o Bs X |> fun z => wpAny_mono z (fun _ s₁ ⟨S₁, m₁, X₁, h₁⟩ => h₁ base A s₁ o Bs X₁) fun _ _ e => e
  intro base A s o Bs X
  refine wpAny_bind (wpAny_holding (wpAny_assign_Name ?_))
  refine wpAny_mono (W_store (Q := fun _ => U) fe hz (by subst ha hb hc; exact h) base A s o Bs X) (fun _ s₁ z => wpAny_pure z) fun _ _ e => e
/-- x, y = value -/
theorem EX_assign_tup {elts : List Expr} {k : Nat} {tpos pos : Pos} {value : Expr}
    (h : EV D n L (eval value env) S m fun v S m => Asn D n L env (.Tuple elts k tpos) v S m fun S m => EX D n L (execs rest env) S m R)
    (hs : swapsWithSole [.Tuple elts k tpos] value pos.line env = pure false) (hw : swappedStores [.Tuple elts k tpos] value env = pure none) :
    EX D n L (execs (.Assign [.Tuple elts k tpos] value pos :: rest) env) S m R :=
  EX_cons fun base A s o Bs X => Assign_Tuple (W.go h o Bs X fun v s₁ S₁ m₁ X₁ h₁ => wpAny_mono (h₁ v rfl base A s₁ o Bs X₁) (fun _ s₂ h₂ => h₂) fun _ _ e => e) hs hw

/-! the iterated object and the turn -/
theorem At.freeze {I : Addr} {oI : Obj} (X : At D base L S m s) (h : S I = some (.raw oI)) : base I = none ∧ I ≠ L ∧ s.heap.get? I = some oI ∧ At D (base.set I oI) L (S.erase I) m s := by
  have hL := X.notL h
  have hb := X.toC.new I _ h
  obtain ⟨o', ho, e⟩ := X.here h
  have e : o' = oI := e
  subst e
  obtain ⟨p, oL, C, r⟩ := X
  refine ⟨hb, hL, ho, by rw [OH.set_ne hL.symm]; exact p, oL, ?_, r⟩
  rw [OH.comm hL]
  refine ⟨fun a o e => ?_, fun a x e => C.here a x (PH.erase_some e).2, fun a x e => ?_, ?_, C.gens, C.os⟩
  · by_cases qa : a = I
    · subst qa; rw [OH.set_same] at e; cases e; exact ho
    · rw [OH.set_ne qa] at e; exact C.keep a o e
  · obtain ⟨e1, e2⟩ := PH.erase_some e
    rw [OH.set_ne e1]; exact C.new a x e2
  · obtain ⟨δ, hd⟩ := C.dicts
    refine ⟨δ, fun a Cl fs e => ?_⟩
    obtain ⟨e1, e2⟩ := PH.erase_some e
    obtain ⟨h1, h2, h3, h4, h5⟩ := hd a Cl fs e2
    have : δ a ≠ I := by intro z; rw [z, h] at h4; cases h4
    exact ⟨h1, h2, by rw [OH.set_ne this]; exact h3, by rw [PH.erase_ne this]; exact h4, fun a' C' fs' e' => h5 a' C' fs' (PH.erase_some e').2⟩

theorem At.rebase {I : Addr} {o o' : Obj} (X : At D (base.set I o) L S m s) (k : ∀ b x, b ≠ I → s.heap.get? b = some x → s'.heap.get? b = some x) (hI : s'.heap.get? I = some o') (hg : s'.gens = s.gens) (ho : s'.os = s.os) :
    At D (base.set I o') L S m s' := by
  obtain ⟨p, oL, C, r⟩ := X
  have hLI : L ≠ I := by rintro rfl; rw [OH.set_same] at p; cases p
  have notI : ∀ a x, S a = some x → a ≠ I := by
    rintro a x e rfl
    have := C.new _ _ e
    rw [OH.set_ne hLI.symm, OH.set_same] at this; cases this
  refine ⟨by rw [OH.set_ne hLI] at p ⊢; exact p, oL, ⟨fun a ob e => ?_, fun a x e => ?_, fun a x e => ?_, ?_, hg.trans C.gens, ho.trans C.os⟩, r⟩
  · by_cases q1 : a = I
    · subst q1; rw [OH.set_ne hLI.symm, OH.set_same] at e; cases e; exact hI
    · refine k a ob q1 (C.keep a ob ?_)
      by_cases q2 : a = L
      · subst q2; rw [OH.set_same] at e ⊢; exact e
      · rw [OH.set_ne q2, OH.set_ne q1] at e ⊢; exact e
  · obtain ⟨ob, h1, h2⟩ := C.here a x e
    exact ⟨ob, k a ob (notI a x e) h1, h2⟩
  · have := C.new a x e
    by_cases q2 : a = L
    · subst q2; rw [OH.set_same] at this; cases this
    · rw [OH.set_ne q2, OH.set_ne (notI a x e)] at this ⊢; exact this
  · obtain ⟨δ, hd⟩ := C.dicts
    refine ⟨δ, fun a Cl fs e => ?_⟩
    obtain ⟨h1, ⟨es, n, h2, h3⟩, h4, h5⟩ := hd a Cl fs e
    have d1 : δ a ≠ L := by intro z; rw [z, OH.set_same] at h4; cases h4
    have d2 : δ a ≠ I := by intro z; rw [OH.set_ne d1, z, OH.set_same] at h4; cases h4
    exact ⟨k _ _ (notI a _ e) h1, ⟨es, n, k _ _ d2 h2, h3⟩, by rw [OH.set_ne d1, OH.set_ne d2] at h4 ⊢; exact h4, h5⟩

theorem At.thaw {I : Addr} {o : Obj} (hb : base I = none) (X : At D (base.set I o) L S m s) (k : ∀ b x, b ≠ I → s.heap.get? b = some x → s'.heap.get? b = some x) (hg : s'.gens = s.gens) (ho : s'.os = s.os) : At D base L S m s' := by
  obtain ⟨p, oL, C, r⟩ := X
  have hLI : L ≠ I := by rintro rfl; rw [OH.set_same] at p; cases p
  have notI : ∀ a x, S a = some x → a ≠ I := by
    rintro a x e rfl
    have := C.new _ _ e
    rw [OH.set_ne hLI.symm, OH.set_same] at this; cases this
  refine ⟨by rw [OH.set_ne hLI] at p; exact p, oL, ⟨fun a ob e => ?_, fun a x e => ?_, fun a x e => ?_, ?_, hg.trans C.gens, ho.trans C.os⟩, r⟩
  · have q1 : a ≠ I := by rintro rfl; rw [OH.set_ne hLI.symm, hb] at e; cases e
    refine k a ob q1 (C.keep a ob ?_)
    by_cases q2 : a = L
    · subst q2; rw [OH.set_same] at e ⊢; exact e
    · rw [OH.set_ne q2] at e; rw [OH.set_ne q2, OH.set_ne q1]; exact e
  · obtain ⟨ob, h1, h2⟩ := C.here a x e
    exact ⟨ob, k a ob (notI a x e) h1, h2⟩
  · have := C.new a x e
    by_cases q2 : a = L
    · subst q2; rw [OH.set_same] at this; cases this
    · rw [OH.set_ne q2, OH.set_ne (notI a x e)] at this; rw [OH.set_ne q2]; exact this
  · obtain ⟨δ, hd⟩ := C.dicts
    refine ⟨δ, fun a Cl fs e => ?_⟩
    obtain ⟨h1, ⟨es, n, h2, h3⟩, h4, h5⟩ := hd a Cl fs e
    have d1 : δ a ≠ L := by intro z; rw [z, OH.set_same] at h4; cases h4
    have d2 : δ a ≠ I := by intro z; rw [OH.set_ne d1, z, OH.set_same] at h4; cases h4
    exact ⟨k _ _ (notI a _ e) h1, ⟨es, n, k _ _ d2 h2, h3⟩, by rw [OH.set_ne d1, OH.set_ne d2] at h4; rw [OH.set_ne d1]; exact h4, h5⟩

/-- an iterator I of N items val, its object told by st; it reads what dep says of S -/
structure IterK (D : Wd) (dep : PH → Prop) (N : Nat) (val : Nat → Value) (st : Nat → Obj → Prop) : Prop where
  item : ∀ {i : Nat} {S : PH} {I : Addr} {oI : Obj} {A : Around} {s : Shared} {Q : Option Value → Shared → Prop} {E : Value → Shared → Prop}, i < N → A.handled = none → A.units + 10 < cLine → (∀ a x, S a = some x → ∃ o, s.heap.get? a = some o ∧ ORep D.w x o) → S I = none → dep S →
    s.heap.get? I = some oI → st i oI →
    (∀ x h' tk oI', er x = val i → h'.get? I = some oI' → st (i + 1) oI' → (∀ b o, b ≠ I → s.heap.get? b = some o → h'.get? b = some o) → Q (some x) { s with heap := h', toks := tk }) →
    wpAny (model pw D.w) A (pyNext (.ref I)) Q E s
  done : ∀ {S : PH} {I : Addr} {oI : Obj} {A : Around} {s : Shared} {Q : Option Value → Shared → Prop} {E : Value → Shared → Prop}, A.handled = none → A.units + 10 < cLine → (∀ a x, S a = some x → ∃ o, s.heap.get? a = some o ∧ ORep D.w x o) → S I = none → dep S →
    s.heap.get? I = some oI → st N oI →
    (∀ h' tk, (∀ b o, b ≠ I → s.heap.get? b = some o → h'.get? b = some o) → Q none { s with heap := h', toks := tk }) →
    wpAny (model pw D.w) A (pyNext (.ref I)) Q E s
  go : ∀ {elts : List Expr} {k : Nat} {pos : Pos} {i : Nat} {I : Addr} {oI : Obj} {v : Value} {A : Around} {s : Shared} {Q : Unit → Shared → Prop} {E : Value → Shared → Prop}, s.heap.get? I = some oI → st i oI → Q () s →
    wpAny (model pw D.w) A (letOwnedTupleGo (.Tuple elts k pos) (.ref I) v) Q E s

/-- pyIter -/
noncomputable def PyI (D : Wd) (n : Nat) (L : Addr) (x : Value) (S : PH) (m : Loc) (K : Addr → PH → Loc → Prop) : Prop := ∀ x', er x' = x → W D n L (pyIter x') S m fun r S m => ∃ I, r = .ref I ∧ K I S m

noncomputable def isTupTarget : Expr → Bool
  | .Tuple .. => true
  | .Name .. => true
  | _ => false

/-- the end of a loop's turn -/
noncomputable def Turn (D : Wd) (n : Nat) (L : Addr) (env : Env) (rest : List Stmt) (R : Flow → PH → Loc → Prop) (J : PH → Loc → Prop) (f : Flow) (S : PH) (m : Loc) : Prop := match f with
  | .next | .cont => J S m
  | .brk => EX D n L (execs rest env) S m R
  | .ret v => R (.ret v) S m
/-- a turn of a for loop -/
noncomputable def Stp (D : Wd) (n : Nat) (L : Addr) (env : Env) (target : Expr) (body rest : List Stmt) (R : Flow → PH → Loc → Prop) (J : PH → Loc → Prop) (v : Value) (S : PH) (m : Loc) : Prop :=
  Asn D n L env target v S m fun S m => EX D n L (execs body env) S m (Turn D n L env rest R J)
noncomputable def ForK (D : Wd) (n : Nat) (L : Addr) (env : Env) (target : Expr) (body rest : List Stmt) (R : Flow → PH → Loc → Prop) (I : Addr) (S : PH) (m : Loc) : Prop :=
  ∃ dep N val st oI, IterK D dep N val st ∧ S I = some (.raw oI) ∧ st 0 oI ∧ ∃ J : Nat → PH → Loc → Prop, J 0 (S.erase I) m ∧ (∀ i S m, J i S m → dep S) ∧
      (∀ i S m, i < N → J i S m → Stp D n L env target body rest R (J (i + 1)) (val i) S m) ∧ ∀ S m, J N S m → EX D n L (execs rest env) S m R

theorem isTup_of {t : Expr} (h : isTupTarget t = true) : (∃ e k p, t = .Tuple e k p) ∨ ∃ x p, t = .Name x p := by
  unfold isTupTarget at h
  split at h
  · exact .inl ⟨_, _, _, rfl⟩
  · exact .inr ⟨_, _, rfl⟩
  · cases h
/-- the end of a turn, as the kit's loop asks it -/
noncomputable def LoopP (RP : Result → Shared → Prop) (I : Nat → Shared → Prop) (n : Nat) (f : Flow) (s : Shared) : Prop := match f with
  | .next | .cont => ∃ m, m < n ∧ I m s
  | .brk => RP (.ok .next) s
  | .ret v => RP (.ok (.ret v)) s
noncomputable def NextP (Z : Shared → Prop) (B : Value → Shared → Prop) (r : Option Value) (s : Shared) : Prop := match r with
  | none => Z s
  | some v => B v s
abbrev NoE : Value → Shared → Prop := fun _ _ => False
theorem forLoop_go {A : Around} {M : Program} {w : World} {RP : Result → Shared → Prop} {target : Expr} {it : Value} {body : List Stmt} (I : Nat → Shared → Prop)
    (turn : ∀ n s, I n s → ∀ Z B, (∀ s₁, RP (.ok .next) s₁ → Z s₁) → (∀ v s₁, wpAny (model M w) A (letOwnedTupleGo target it v) (fun _ s => wpAny (model M w) A (assign target env v) (fun _ s₂ => wpAny (model M w) A (execs body env) (LoopP RP I n) NoE s₂) NoE s) NoE s₁ → B v s₁) →
      wpAny (model M w) A (pyNext it) (NextP Z B) NoE s) (n : Nat) (h : I n s) : codeAny (model M w) A (.forLoop target it body [] env) RP s :=
  codeAny_forLoop_any I (fun n s hI => wpAny_mono (turn n s hI _ _ (fun s₁ h => wpAny_execs_nil h) fun v s₁ h => wpAny_mono h (fun _ s h => wpAny_mono h (fun _ s h => wpAny_mono h (fun f s h => by cases f <;> exact h) fun _ _ e => e.elim) fun _ _ e => e.elim) fun _ _ e => e.elim)
    (fun r s h => by cases r <;> exact h) fun _ _ e => e.elim) n h
theorem for_core {A : Around} {target : Expr} {body rest : List Stmt} {R : Flow → PH → Loc → Prop} {I : Addr} {dep : PH → Prop} {N : Nat} {val : Nat → Value} {st : Nat → Obj → Prop} {oI : Obj} (RP : Result → Shared → Prop)
    (hRP : ∀ f s' S' m', At D base L S' m' s' → Seq D n L env rest R (erF f) S' m' → RP (.ok f) s') (o : Ok n A) (Bs : Base D base) (X : At D base L S m s) (K : IterK D dep N val st) (hI : S I = some (.raw oI)) (h0 : st 0 oI) (J : Nat → PH → Loc → Prop)
    (hJ0 : J 0 (S.erase I) m) (hdep : ∀ i S m, J i S m → dep S) (step : ∀ i S m, i < N → J i S m → Stp D n L env target body rest R (J (i + 1)) (val i) S m) (done : ∀ S m, J N S m → EX D n L (execs rest env) S m R)
    (ht : isTupTarget target = true) : codeAny (model pw D.w) A (.forLoop target (.ref I) body [] env) RP s := by
  obtain ⟨hb, hne, hg, X₃⟩ := X.freeze hI
  have Bs' : ∀ oI', Base D (base.set I oI') := fun oI' a ob e => by
    have := Bs a ob e
    rw [OH.set_ne (by rintro rfl; rw [hb] at this; cases this)]; exact this
  refine forLoop_go (fun k s' => ∃ i S m oI', k = N + 1 - i ∧ i ≤ N ∧ st i oI' ∧ s'.heap.get? I = some oI' ∧ At D (base.set I oI') L S m s' ∧ J i S m) ?_ (N + 1) ⟨0, S.erase I, m, oI, rfl, Nat.zero_le _, h0, hg, X₃, hJ0⟩
  clear X₃ hg h0 hJ0 X hI
  intro k s' z Z B hZ hB
  obtain ⟨i, S, m, oI', rfl, hi, hst, hg', X', hJ⟩ := z
  have hSI : S I = none := by
    cases q : S I with
    | none => rfl
    | some x => have := X'.toC.new I x q; rw [OH.set_same] at this; cases this
  have hun : A.units + 10 < cLine := by have := o.2.2; rw [cLine_is]; (first | lia | omega)
  by_cases hlt : i < N
  · refine K.item (Q := NextP Z B) hlt o.1 hun (fun a x e => X'.here e) hSI (hdep _ _ _ hJ) hg' hst fun x h' tk oI'' hx hI' hst' hk => ?_
    have X4 : At D (base.set I oI'') L S m { s' with heap := h', toks := tk } := X'.rebase hk hI' rfl rfl
    have goOn := step i S m hlt hJ x hx
    clear X' hSI hg' hZ step hdep done
    refine hB x _ ?_
    have all : wpAny (model pw D.w) A (assign target env x) (fun _ s₂ => wpAny (model pw D.w) A (execs body env) (LoopP RP (fun k s' => ∃ i S m oI', k = N + 1 - i ∧ i ≤ N ∧ st i oI' ∧ s'.heap.get? I = some oI' ∧ At D (base.set I oI') L S m s' ∧ J i S m) (N + 1 - i)) NoE s₂) NoE { s' with heap := h', toks := tk } := by
      refine W.go goOn o (Bs' _) X4 fun _ s₅ S₅ m₅ X₅ h₅ => W.go h₅ o (Bs' _) X₅ fun f s₆ S₆ m₆ X₆ h₆ => ?_
      have g6 : s₆.heap.get? I = some oI'' := X₆.toC.keep I oI'' (OH.set_same ..)
      have nxt : J (i + 1) S₆ m₆ → ∃ k, k < N + 1 - i ∧ ∃ i S m oI', k = N + 1 - i ∧ i ≤ N ∧ st i oI' ∧ s₆.heap.get? I = some oI' ∧ At D (base.set I oI') L S m s₆ ∧ J i S m :=
        fun h => ⟨N + 1 - (i + 1), by (first | lia | omega), i + 1, S₆, m₆, oI'', rfl, by (first | lia | omega), hst', g6, X₆, h⟩
      have thw := At.thaw hb X₆ (fun _ _ _ e => e) rfl rfl
      cases f with
      | next => exact nxt h₆
      | cont => exact nxt h₆
      | brk => exact hRP .next _ _ _ thw h₆
      | ret v => exact hRP (.ret v) _ _ _ thw h₆
    rcases isTup_of ht with ⟨elts, k, pos, rfl⟩ | ⟨y, p, rfl⟩
    · exact K.go hI' hst' all
    · exact wpAny_of_eq (a := ()) rfl all
  · have hiN : i = N := by (first | lia | omega)
    subst hiN
    refine K.done (Q := NextP Z B) o.1 hun (fun a x e => X'.here e) hSI (hdep _ _ _ hJ) hg' hst fun h' tk hk => ?_
    exact hZ _ (hRP .next _ S m (At.thaw hb X' hk rfl rfl) (done S m hJ))
/-- a for loop -/
theorem EX_for' {target iter : Expr} {body rest : List Stmt} {R : Flow → PH → Loc → Prop} {pos : Pos} (h : EV D n L (eval iter env) S m fun x S m => PyI D n L x S m (ForK D n L env target body rest R))
    (ht : isTupTarget target = true) (hs : ∀ x, foldedSetIterable iter env x = pure x) : EX D n L (execs (.For target iter body [] pos :: rest) env) S m R := by
  refine EX_cons fun base A s o Bs X => wpAny_For (W.go h o Bs X fun x s₁ S₁ m₁ X₁ h₁ => W.go (h₁ x rfl) o Bs X₁ fun r s₂ S₂ m₂ X₂ z => ?_) hs
  obtain ⟨I, rfl, dep, N, val, st, oI, K, hI, h0, J, hJ0, hdep, step, done⟩ := z
  exact for_core _ (fun f s' S' m' a b => ⟨S', m', a, b⟩) o Bs X₂ K hI h0 J hJ0 hdep step done ht

/-- a while loop by an invariant and a falling number -/
theorem EX_while' {test : Expr} {body rest : List Stmt} {R : Flow → PH → Loc → Prop} {pos : Pos} (J : Nat → PH → Loc → Prop) (k : Nat) (h0 : J k S m)
    (step : ∀ k S m T, (∀ k' S m, k' < k → J k' S m → T S m) → J k S m → BT D n L env test S m fun b S m => if b = true then EX D n L (execs body env) S m (Turn D n L env rest R T)
      else EX D n L (execs rest env) S m R) : EX D n L (execs (.While test body [] pos :: rest) env) S m R := by
  refine EX_cons fun base A s o Bs X => wpAny_While ?_
  refine codeAny_whileLoop (fun k s' => ∃ S m, At D base L S m s' ∧ J k S m) ?_ k ⟨S, m, X, h0⟩
  clear X h0
  rintro k s' ⟨S, m, X', hJ⟩
  refine wpAny_mono (step k S m (fun S m => ∃ k', k' < k ∧ J k' S m) (fun k' S m a b => ⟨k', a, b⟩) hJ base A s' o Bs X') (fun b s₁ z => ?_) fun _ _ e => e.elim
  obtain ⟨S₁, m₁, X₁, h₁⟩ := z
  cases b with
  | true =>
    refine wpAny_mono (h₁ base A s₁ o Bs X₁) (fun f s₂ z => ?_) fun _ _ e => e.elim
    obtain ⟨S₂, m₂, X₂, h₂⟩ := z
    cases f with
    | next => obtain ⟨k', a, b⟩ := h₂; exact ⟨k', a, S₂, m₂, X₂, b⟩
    | cont => obtain ⟨k', a, b⟩ := h₂; exact ⟨k', a, S₂, m₂, X₂, b⟩
    | brk => exact ⟨S₂, m₂, X₂, h₂⟩
    | ret v => exact ⟨S₂, m₂, X₂, h₂⟩
  | false => exact wpAny_execs_nil ⟨S₁, m₁, X₁, h₁⟩

/-- the locals at a call's start -/
noncomputable def binds (l : List (Str × Value)) : Loc := fun x => l.lookup x

/-- a call of a plain def of the text -/
theorem CallC_def {f : Addr} {fd : FuncData} {body : List Stmt} {args : List Value} {names : List Str} {nm : List (Str × NameKind)} {c0 : Value} {d0 : Option Addr} {sl : Array (Option Value)} {Q : Value → PH → Prop} {S : PH}
    (hf : (KK D.w.params).lookup f = some ⟨c0, d0, .func fd, sl⟩) (hb : fd.body = .stmts body) (hco : fd.scope.isCoroutine = false) (hgen : fd.scope.isGenerator = false) (hk : fd.scope.kind = .function)
    (hcode : codeIn (KK D.w.params) fd.code fd.qualname = true) (hgl : fd.globals = mainGlobals) (hbl : fd.builtins = builtinsNs) (hnm : fd.scope.names = nm) (hdbg : nm.lookup (Str.ofString "__debug__") = none)
    (hbind : ∀ args' : List Value, args'.length = args.length → bindArgs fd ⟨args', []⟩ = pure (names.zip args')) (hlen : names.length = args.length) (hnd : names.Nodup)
    (hloc : ∀ x ∈ names, nm.lookup x = some .local) (hcell : ∀ x ∈ nm, x.2 ≠ .cell)
    (h : ∀ L env, FE L nm env → EX D n L (execs body env) S (binds (names.zip args)) fun fl S' _ => Q (match fl with | .ret v => v | _ => .none) S') :
    CallC D (n + 1) (.ref f) args S Q := fun base A s args' o Bs X hv => by
  have K := D.KX.keeps (fun b o e => X.keep _ _ (Bs b o e))
  have hlen' : args'.length = args.length := by rw [← hv]; simp
  refine codeAny_call_function (by have := o.2.1; show _ < 1000; (first | lia | omega)) (K _ _ hf) rfl hco hgen hb (codeRec_of K hcode) ?_
  rw [hbind args' hlen']
  refine wpAny_pure (wpAny_newFunctionEnv (by rw [hnm]; exact hcell) (fun x hx => by rw [hnm]; exact hloc _ (List.of_mem_zip hx).1) (fun h₁ hns hsb => ⟨(D.nolimit.keeps fun b o e => X.keep _ _ (Bs b o e)).fresh _ hsb, ?_⟩) hk)
  have frL : s.heap.get? s.heap.objs.size = none := by
    cases q : s.heap.get? s.heap.objs.size with
    | none => rfl
    | some o => exact absurd (Heap.lt_size q) (Nat.lt_irrefl _)
  have ext : ∀ b o, s.heap.get? b = some o → h₁.get? b = some o := fun b o e => hsb.extBut b o (Nat.ne_of_lt (Heap.lt_size e)) (Heap.get?_push_of_some _ e)
  have X1 := X.ext (s' := { s with heap := h₁, toks := s.toks + (names.zip args').length }) ext rfl rfl
  have key : ∀ (ns : List Str) (as : List Value), ns.Nodup → ∀ x, ((ns.zip as).reverse.lookup x).map er = (ns.zip (as.map er)).lookup x := by
    intro ns as hnd x
    have nd2 : ((ns.zip as).map (·.1)).Nodup := by
      clear hv hlen' hlen
      induction ns generalizing as with
      | nil => exact .nil
      | cons a ns ih =>
        cases as with
        | nil => exact .nil
        | cons b as =>
          rw [List.nodup_cons] at hnd
          rw [List.zip_cons_cons, List.map_cons, List.nodup_cons]
          refine ⟨fun hm => ?_, ih as hnd.2⟩
          obtain ⟨p, hp, e⟩ := List.mem_map.mp hm
          have e : p.1 = a := e
          have q := (List.of_mem_zip (a := p.1) (b := p.2) hp).1
          rw [e] at q; exact hnd.1 q
    have e1 : (ns.zip as).reverse.lookup x = (ns.zip as).lookup x := by
      generalize ns.zip as = l at nd2
      induction l with
      | nil => rfl
      | cons p r ih =>
        obtain ⟨a, b⟩ := p
        simp only [List.map_cons, List.nodup_cons] at nd2
        rw [List.reverse_cons, List.lookup_append, ih nd2.2]
        simp only [List.lookup_cons, List.lookup_nil]
        by_cases hxa : x = a
        · subst hxa
          have : r.lookup x = none := by
            rw [List.lookup_eq_none_iff]
            intro p hp
            by_cases q : x = p.1
            · exact absurd (List.mem_map.mpr ⟨p, hp, q.symm⟩) nd2.1
            · simpa using q
          rw [this]; simp
        · have : (x == a) = false := by simpa using hxa
          rw [this]; cases r.lookup x <;> rfl
    rw [e1]
    clear hnd nd2 e1
    induction ns generalizing as with
    | nil => rfl
    | cons a ns ih =>
      cases as with
      | nil => rfl
      | cons b as =>
        simp only [List.zip_cons_cons, List.map_cons, List.lookup_cons]
        cases x == a <;> simp [ih]
  obtain ⟨oL, es, ep, g1, g2, g3, g4⟩ := hns
  have notL : ∀ a x, S a = some x → a ≠ s.heap.objs.size := by
    rintro a x e rfl
    obtain ⟨ob, q, _⟩ := X.here _ x e
    rw [frL] at q; cases q
  have baseL : base s.heap.objs.size = none := (X.fresh frL).2
  have XA : At D base s.heap.objs.size S (binds (names.zip args)) { s with heap := h₁, toks := s.toks + (names.zip args').length } := by
    refine ⟨baseL, oL, ⟨fun a o e => ?_, X1.here, fun a x e => ?_, ?_, X1.gens, X1.os⟩, es, ep, g2, g3, _, g4, fun x => ?_⟩
    · by_cases q : a = s.heap.objs.size
      · subst q; rw [OH.set_same] at e; cases e; exact g1
      · rw [OH.set_ne q] at e; exact X1.keep a o e
    · rw [OH.set_ne (notL a x e)]; exact X1.new a x e
    · obtain ⟨δ, hd⟩ := X.dicts
      refine ⟨δ, fun a C fs e => ?_⟩
      obtain ⟨x1, ⟨es, n, x2, x3⟩, x4, x5⟩ := hd a C fs e
      have : δ a ≠ s.heap.objs.size := by intro q; rw [q, frL] at x2; cases x2
      exact ⟨ext _ _ x1, ⟨es, n, ext _ _ x2, x3⟩, by rw [OH.set_ne this]; exact x4, x5⟩
    · rw [key names args' hnd x, hv]; rfl
  refine codeAny_func (wpAny_mono (h s.heap.objs.size _ ⟨?_, ?_, ?_, ?_, ?_, ?_⟩ base _ _ (o.deeper) Bs XA) (fun fl s' ⟨S', m', X', q⟩ => ?_) fun _ _ e => e.elim)
  · exact hk
  · rfl
  · exact hgl
  · exact hbl
  · exact hnm
  · exact hdbg
  · refine ⟨_, S', rfl, X'.toC, ?_⟩
    cases fl <;> exact q
end
end Mine
namespace Mine

theorem erase_set {S : PH} {I : Addr} {x : AObj} (h : S I = none) : (S.set I x).erase I = S := by
  funext b
  unfold PH.erase PH.set
  by_cases q : b = I
  · subst q; simp [h]
  · simp [q]

section
variable {D : Wd} {n : Nat} {L : Addr} {S : PH} {m : Loc} {nm : List (Str × NameKind)} {env : Env} {base : OH} {s s' : Shared} {rest : List Stmt}
variable {Q : Value → PH → Loc → Prop} {B : Bool → PH → Loc → Prop} {R : Flow → PH → Loc → Prop} {U : Unit → PH → Loc → Prop}

theorem fresh_size (s : Shared) : s.heap.get? s.heap.objs.size = none := by
  cases q : s.heap.get? s.heap.objs.size with
  | none => rfl
  | some o => exact absurd (Heap.lt_size q) (Nat.lt_irrefl _)

/-! lists -/
noncomputable def lIter (l : Addr) (i : Nat) (o : Obj) : Prop := o.cls = .type "list_iterator" ∧ o.data = .fields #[.ref l, .int (i : Int) 0]
theorem iterList (l : Addr) (vs : List Value) : IterK D (fun S => S l = some (.list vs)) vs.length (fun i => (vs[i]?).getD .none) (lIter l) where
  item := fun {i S I oI A s Q E} hlt hh hu hr hI hl hg hst hQ => by
    obtain ⟨o, ho, us, k, rfl, hu'⟩ := hr l _ hl
    have hlen : us.size = vs.length := by rw [← hu']; simp
    have hx : us[i]? = some (us[i]'(by (first | lia | omega))) := Array.getElem?_eq_getElem (by (first | lia | omega))
    have hne : l ≠ I := by rintro rfl; rw [hI] at hl; cases hl
    refine wpAny_pyNext_list_item (i := i) (l := l) ⟨oI, hg, hst⟩ ⟨_, ho, rfl, k, rfl⟩ hx fun h' hit hs => ?_
    obtain ⟨oI', g', st'⟩ := hit
    refine hQ _ h' s.toks oI' ?_ g' st' fun b o hb e => (hs.2 b hb).trans e
    have : (us.toList.map er)[i]? = some (er us[i]) := by rw [List.getElem?_map, Array.getElem?_toList, hx]; rfl
    rw [hu'] at this
    simp [this]
  done := fun {S I oI A s Q E} hh hu hr hI hl hg hst hQ => by
    obtain ⟨o, ho, us, k, rfl, hu'⟩ := hr l _ hl
    have hlen : us.size = vs.length := by rw [← hu']; simp
    exact wpAny_pyNext_list_end (i := vs.length) (l := l) hh ⟨oI, hg, hst⟩ ⟨_, ho, rfl, k, rfl⟩ (by rw [Array.getElem?_eq_none (by (first | lia | omega))]) fun h' he => hQ h' s.toks fun b o hb e => he b o hb e
  go := fun {elts k pos i I oI v A s Q E} hg hst hQ => by
    cases v with
    | ref T => exact wpAny_letOwnedTupleGo_listiter (i := i) (l := l) ⟨oI, hg, hst⟩ hQ
    | _ => exact wpAny_of_eq (a := ()) rfl hQ
theorem PyI_list {l : Addr} {vs : List Value} {K : Addr → PH → Loc → Prop} (hl : S l = some (.list vs)) (h : ∀ I oI, S I = none → lIter l 0 oI → K I (S.set I (.raw oI)) m) : PyI D n L (.ref l) S m K := fun x' hx base A s o Bs X => by
  have := er_ref hx; subst this
  obtain ⟨ob, ho, us, k, rfl, hu'⟩ := X.here hl
  refine wpAny_pyIter_list (items := us) ⟨_, ho, rfl, k, rfl⟩ ⟨_, m, X.add (a := s.heap.objs.size) (x := .raw _) (fun b o e => Heap.get?_push_of_some _ e) rfl rfl (fresh_size s) (Heap.get?_push_size _ rfl) rfl rfl, _, rfl, h _ _ (X.fresh (fresh_size s)) ⟨rfl, rfl⟩⟩

/-! tuples -/
noncomputable def tIter (l : Addr) (i : Nat) (o : Obj) : Prop := o.cls = .type "tuple_iterator" ∧ o.data = .fields #[.ref l, .int (i : Int) 0]
theorem iterTup (l : Addr) (vs : List Value) : IterK D (fun S => S l = some (.tup vs)) vs.length (fun i => (vs[i]?).getD .none) (tIter l) where
  item := fun {i S I oI A s Q E} hlt hh hu hr hI hl hg hst hQ => by
    obtain ⟨o, ho, us, k, rfl, hu'⟩ := hr l _ hl
    have hlen : us.size = vs.length := by rw [← hu']; simp
    have hx : us[i]? = some (us[i]'(by (first | lia | omega))) := Array.getElem?_eq_getElem (by (first | lia | omega))
    refine wpAny_pyNext_tuple_item (i := i) (t := l) ⟨oI, hg, hst⟩ ⟨_, ho, rfl, k, rfl⟩ hx fun h' hit hs => ?_
    obtain ⟨oI', g', st'⟩ := hit
    refine hQ _ h' s.toks oI' ?_ g' st' fun b o hb e => (hs.2 b hb).trans e
    have : (us.toList.map er)[i]? = some (er us[i]) := by rw [List.getElem?_map, Array.getElem?_toList, hx]; rfl
    rw [hu'] at this
    simp [this]
  done := fun {S I oI A s Q E} hh hu hr hI hl hg hst hQ => by
    obtain ⟨o, ho, us, k, rfl, hu'⟩ := hr l _ hl
    have hlen : us.size = vs.length := by rw [← hu']; simp
    exact wpAny_pyNext_tuple_end (i := vs.length) (t := l) hh ⟨oI, hg, hst⟩ ⟨_, ho, rfl, k, rfl⟩ (by rw [Array.getElem?_eq_none (by (first | lia | omega))]) fun h' he => hQ h' s.toks fun b o hb e => he b o hb e
  go := fun {elts k pos i I oI v A s Q E} hg hst hQ => by
    cases v with
    | ref T =>
      obtain ⟨c, d, dt, sl⟩ := oI
      obtain ⟨h1, h2⟩ := hst
      dsimp only at h1 h2
      subst h1 h2
      unfold letOwnedTupleGo
      refine wpAny_bind (wpAny_load hg ?_)
      exact wpAny_of_eq (a := ()) rfl hQ
    | _ => exact wpAny_of_eq (a := ()) rfl hQ
theorem PyI_tup {l : Addr} {vs : List Value} {K : Addr → PH → Loc → Prop} (hl : S l = some (.tup vs)) (h : ∀ I oI, S I = none → tIter l 0 oI → K I (S.set I (.raw oI)) m) : PyI D n L (.ref l) S m K := fun x' hx base A s o Bs X => by
  have := er_ref hx; subst this
  obtain ⟨ob, ho, us, k, rfl, hu'⟩ := X.here hl
  refine wpAny_pyIter_tuple (items := us) ⟨_, ho, rfl, k, rfl⟩ ⟨_, m, X.add (a := s.heap.objs.size) (x := .raw _) (fun b o e => Heap.get?_push_of_some _ e) rfl rfl (fresh_size s) (Heap.get?_push_size _ rfl) rfl rfl, _, rfl, h _ _ (X.fresh (fresh_size s)) ⟨rfl, rfl⟩⟩

/-! dicts: the keys -/
noncomputable def dIter (d : Addr) (N ep : Nat) (i : Nat) (o : Obj) : Prop := ∃ h : Heap, h.get? 0 = some o ∧ h.IsKeyIter 0 d i N ep
theorem keyIter_move {h h' : Heap} {a b d : Addr} {i N ep : Nat} {o : Obj} (x : h.IsKeyIter a d i N ep) (e : h.get? a = some o) (e' : h'.get? b = some o) : h'.IsKeyIter b d i N ep := by
  obtain ⟨o', ho, r⟩ := x
  rw [e] at ho; cases ho
  exact ⟨_, e', r⟩
theorem one_heap {o : Obj} {h : Heap} {a : Addr} (e : h.get? a = some o) : ({ objs := #[o] } : Heap).get? 0 = some o := by
  have hf : o.isFreed = false := (Heap.get?_some_iff.mp e).2
  exact Heap.get?_some_iff.mpr ⟨rfl, hf⟩
theorem iterDict (d : Addr) (kvs : List (Int × Value)) (ep : Nat) : IterK D (fun S => S d = some (.dict kvs ep)) kvs.length (fun i => ((kvs[i]?).map fun p => Value.int p.1 0).getD .none) (dIter d kvs.length ep) where
  item := fun {i S I oI A s Q E} hlt hh hu hr hI hl hg hst hQ => by
    obtain ⟨o, ho, kvs', es, hd, hu'⟩ := hr d _ hl
    have hlen : kvs'.length = kvs.length := by rw [← hu']; simp
    obtain ⟨h0, e0, k0⟩ := hst
    rw [← hlen] at k0
    refine wpAny_pyNext_dict_item (d := d) (i := i) (ep := ep) (kvs := kvs') (k := (kvs'[i]'(by (first | lia | omega))).1) (v := (kvs'[i]'(by (first | lia | omega))).2) (knd := intKind pw D.w) (keyIter_move k0 e0 hg) ⟨o, es, ho, hd⟩ (by rw [List.getElem?_eq_getElem (by (first | lia | omega))]) fun key h' hk hit hs => ?_
    obtain ⟨oI', g', st'⟩ := id hit
    obtain ⟨t, rfl⟩ := Value.isInt_shape hk
    refine hQ _ h' s.toks oI' ?_ g' ⟨_, one_heap g', keyIter_move (hlen ▸ hit) g' (one_heap g')⟩ fun b o hb e => (hs.2 b hb).trans e
    subst hu'
    simp [List.getElem?_map, List.getElem?_eq_getElem (show i < kvs'.length by (first | lia | omega)), er]
  done := fun {S I oI A s Q E} hh hu hr hI hl hg hst hQ => by
    obtain ⟨o, ho, kvs', es, hd, hu'⟩ := hr d _ hl
    have hlen : kvs'.length = kvs.length := by rw [← hu']; simp
    obtain ⟨h0, e0, k0⟩ := hst
    rw [← hlen] at k0
    exact wpAny_pyNext_dict_end (d := d) (ep := ep) (kvs := kvs') (knd := intKind pw D.w) hh (keyIter_move k0 e0 hg) ⟨o, es, ho, hd⟩ (by rw [List.getElem?_eq_none (by (first | lia | omega))]) fun h' he => hQ h' s.toks fun b o hb e => he b o hb e
  go := fun {elts k pos i I oI v A s Q E} hg hst hQ => by
    cases v with
    | ref T =>
      obtain ⟨h0, e0, o', e0', h1, h2⟩ := hst
      rw [e0] at e0'; cases e0'
      obtain ⟨c, dd, dt, sl⟩ := oI
      dsimp only at h1 h2
      subst h1 h2
      unfold letOwnedTupleGo
      refine wpAny_bind (wpAny_load hg ?_)
      exact wpAny_of_eq (a := ()) rfl hQ
    | _ => exact wpAny_of_eq (a := ()) rfl hQ
theorem PyI_dict {d : Addr} {kvs : List (Int × Value)} {ep : Nat} {K : Addr → PH → Loc → Prop} (hl : S d = some (.dict kvs ep)) (h : ∀ I oI, S I = none → dIter d kvs.length ep 0 oI → K I (S.set I (.raw oI)) m) : PyI D n L (.ref d) S m K := fun x' hx base A s o Bs X => by
  have := er_ref hx; subst this
  obtain ⟨kvs', D', he⟩ := X.dictAt hl
  have hlen : kvs'.length = kvs.length := by rw [← he]; simp
  have g : (s.heap.push { cls := .type "dict_keyiterator", data := .fields #[.ref d, .int 0 0, .int (kvs'.length : Int) 0, .int (ep : Int) 0] }).get? s.heap.objs.size = some { cls := .type "dict_keyiterator", data := .fields #[.ref d, .int 0 0, .int (kvs'.length : Int) 0, .int (ep : Int) 0] } := Heap.get?_push_size _ rfl
  refine wpAny_pyIter_dict (X.notSys Bs hl) D' ⟨_, m, X.add (a := s.heap.objs.size) (x := .raw _) (fun b o e => Heap.get?_push_of_some _ e) rfl rfl (fresh_size s) g rfl rfl, _, rfl, h _ _ (X.fresh (fresh_size s)) ⟨_, one_heap g, _, one_heap g, rfl, ?_⟩⟩
  rw [hlen]; rfl

/-! ranges -/
noncomputable def rIter (a : Int) (N : Nat) (i : Nat) (o : Obj) : Prop := o = { cls := .type "range_iterator", data := .fields #[rawInt (a + i), rawInt ((N : Int) - i), rawInt 1] }
theorem iterRange (a : Int) (N : Nat) : IterK D (fun _ => True) N (fun i => .int (a + i) 0) (rIter a N) where
  item := fun {i S I oI A s Q E} hlt hh hu hr hI hl hg hst hQ => by
    subst hst
    refine wpAny_pyNext_range_item (x := a + i) (left := (N : Int) - i) (step := 1) hg (by (first | lia | omega)) fun h' hit hs => ?_
    refine hQ _ h' _ _ rfl hit ?_ fun b o hb e => (hs.2 b hb).trans e
    have e1 : a + (i : Int) + 1 = a + ((i + 1 : Nat) : Int) := by (first | lia | omega)
    have e2 : (N : Int) - i - 1 = (N : Int) - ((i + 1 : Nat) : Int) := by (first | lia | omega)
    unfold rIter
    rw [← e1, ← e2]
  done := fun {S I oI A s Q E} hh hu hr hI hl hg hst hQ => by
    subst hst
    exact wpAny_pyNext_range_end (x := a + N) (left := (N : Int) - N) (step := 1) hh hg (by (first | lia | omega)) fun h' he => hQ h' s.toks fun b o hb e => he b o hb e
  go := fun {elts k pos i I oI v A s Q E} hg hst hQ => by
    cases v with
    | ref T =>
      subst hst
      unfold letOwnedTupleGo
      refine wpAny_bind (wpAny_load hg ?_)
      exact wpAny_of_eq (a := ()) rfl hQ
    | _ => exact wpAny_of_eq (a := ()) rfl hQ
noncomputable def isRangeO (a b : Int) (o : Obj) : Prop := ∃ t u v, o = { cls := .type "range", data := .fields #[.int a t, .int b u, .int 1 v] }
theorem PyI_range {r : Addr} {a b : Int} {N : Nat} {o : Obj} {K : Addr → PH → Loc → Prop} (hl : S r = some (.raw o)) (ho : isRangeO a b o) (hN : (b - a).toNat = N) (ha : 0 ≤ a) (ha' : a < 2 ^ 40) (hb' : -(2 ^ 40) < b) (hb : b < 2 ^ 40)
    (h : ∀ I oI, S I = none → rIter a N 0 oI → K I (S.set I (.raw oI)) m) : PyI D n L (.ref r) S m K := fun x' hx base A s ok Bs X => by
  have := er_ref hx; subst this
  obtain ⟨t, u, v, rfl⟩ := ho
  obtain ⟨ob, hob, e⟩ := X.here hl
  have e : ob = _ := e
  subst e
  have hsz : Builtin.Range.rangeSize a b 1 = (N : Int) := by rw [rangeSize_one]; split <;> (first | lia | omega)
  refine wpAny_pyIter_range (a := a) (b := b) (c := 1) hob ?_ ⟨_, m, X.add (a := s.heap.objs.size) (x := .raw _) (fun b o e => Heap.get?_push_of_some _ e) rfl rfl (fresh_size s) (Heap.get?_push_size _ rfl) rfl rfl, _, rfl, h _ _ (X.fresh (fresh_size s)) ?_⟩
  · exact small_one (by (first | lia | omega)) (by (first | lia | omega)) (by (first | lia | omega)) (by (first | lia | omega))
  · show _ = _
    rw [hsz]; simp
theorem CallW_range1 {b : Int} (h : ∀ r o, S r = none → isRangeO 0 b o → Q (.ref r) (S.set r (.raw o)) m) : CallW D n L (.type "range") [.int b 0] S m Q := fun vs' hv base A s ok Bs X => by
  obtain ⟨b', rfl, hb⟩ := map1 hv
  obtain ⟨u, rfl⟩ := er_int hb
  exact call_range_1 ⟨_, m, X.add (a := s.heap.objs.size) (x := .raw _) (fun b o e => Heap.get?_push_of_some _ e) rfl rfl (fresh_size s) (Heap.get?_push_size _ rfl) rfl rfl, h _ _ (X.fresh (fresh_size s)) ⟨_, _, _, rfl⟩⟩
theorem CallW_range2 {a b : Int} (h : ∀ r o, S r = none → isRangeO a b o → Q (.ref r) (S.set r (.raw o)) m) : CallW D n L (.type "range") [.int a 0, .int b 0] S m Q := fun vs' hv base A s ok Bs X => by
  obtain ⟨a', b', rfl, ha, hb⟩ := map2 hv
  obtain ⟨u, rfl⟩ := er_int hb
  obtain ⟨t, rfl⟩ := er_int ha
  exact call_range_2 ⟨_, m, X.add (a := s.heap.objs.size) (x := .raw _) (fun b o e => Heap.get?_push_of_some _ e) rfl rfl (fresh_size s) (Heap.get?_push_size _ rfl) rfl rfl, h _ _ (X.fresh (fresh_size s)) ⟨_, _, _, rfl⟩⟩

theorem ints_of {vs : List Value} {ns : List Int} (h : vs.map er = ns.map fun i => Value.int i 0) : IntsAre vs ns := by
  induction vs generalizing ns with
  | nil => cases ns with | nil => exact .nil | cons => simp at h
  | cons v vs ih =>
    cases ns with
    | nil => simp at h
    | cons n ns =>
      simp only [List.map_cons, List.cons.injEq] at h
      obtain ⟨t, rfl⟩ := er_int h.1
      exact .cons n t (ih h.2)
noncomputable def iL (ns : List Int) : List Value := ns.map fun i => Value.int i 0
theorem At.intL {l : Addr} {ns : List Int} (X : At D base L S m s) (h : S l = some (.list (iL ns))) : ∃ us : List Value, s.heap.IsList l us.toArray ∧ IntsAre us ns := by
  obtain ⟨o, ho, us, k, rfl, hu⟩ := X.here h
  exact ⟨us.toList, ⟨_, ho, rfl, k, by simp⟩, ints_of hu⟩
theorem Cmp_ne_ints {a b : Addr} {ns ms : List Int} (ha : S a = some (.list (iL ns))) (hb : S b = some (.list (iL ms))) (h : Q (.bool (!decide (ns = ms))) S m) : Cmp D n L .NotEq (.ref a) (.ref b) S m Q := fun a' b' e1 e2 base A s o Bs X => by
  have := er_ref e1; have := er_ref e2; subst_vars
  obtain ⟨xs, h1, h2⟩ := X.intL ha
  obtain ⟨ys, h3, h4⟩ := X.intL hb
  exact ke_ne_ints h1 h3 h2 h4 (by have := o.2.2; rw [cLine_is]; (first | lia | omega)) ⟨S, m, X, h⟩
theorem CallW_len_list {l : Addr} {vs : List Value} (hl : S l = some (.list vs)) (hz : vs.length < 2 ^ 60) (h : Q (.int vs.length 0) S m) : CallW D n L (.builtin "len") [.ref l] S m Q := fun vs' hv base A s ok Bs X => by
  obtain ⟨b', rfl, hb⟩ := map1 hv
  have := er_ref hb; subst this
  obtain ⟨o, ho, us, k, rfl, hu⟩ := X.here hl
  have hlen : us.size = vs.length := by rw [← hu]; simp
  exact Calls.call_len_list (items := us) ⟨_, ho, rfl, k, rfl⟩ (by (first | lia | omega)) ⟨S, m, X.tok _, by show Q (.int (us.size : Int) 0) S m; rw [hlen]; exact h⟩
theorem CallW_abs {i : Int} (h : Q (.int (if i < 0 then -i else i) 0) S m) : CallW D n L (.builtin "abs") [.int i 0] S m Q := fun vs' hv base A s ok Bs X => by
  obtain ⟨b', rfl, hb⟩ := map1 hv
  obtain ⟨u, rfl⟩ := er_int hb
  exact call_abs_int fun u tk => ⟨S, m, X.tok _, h⟩
end
end Mine
namespace Mine

noncomputable def nm_KernelClauseInit : List (Str × NameKind) := [(Str.ofString "self", .local), (Str.ofString "functor", .local), (Str.ofString "args", .local), (Str.ofString "goals", .local), (Str.ofString "count", .local)]
theorem nd_KernelClauseInit : nm_KernelClauseInit.lookup (Str.ofString "__debug__") = none := by decide
noncomputable def nm_goal_terms : List (Str × NameKind) := [(Str.ofString "goal", .local), (Str.ofString "kind", .local)]
theorem nd_goal_terms : nm_goal_terms.lookup (Str.ofString "__debug__") = none := by decide
noncomputable def nm_goal_special : List (Str × NameKind) := [(Str.ofString "goal", .local)]
theorem nd_goal_special : nm_goal_special.lookup (Str.ofString "__debug__") = none := by decide
noncomputable def nm_places_of : List (Str × NameKind) := [(Str.ofString "kernel", .local), (Str.ofString "places", .local), (Str.ofString "rows", .local), (Str.ofString "at", .local), (Str.ofString "goal", .local), (Str.ofString "special", .local), (Str.ofString "place", .local), (Str.ofString "terms", .local), (Str.ofString "stack", .local), (Str.ofString "term", .local), (Str.ofString "word", .local), (Str.ofString "arg", .local), (Str.ofString "range", .globalImplicit), (Str.ofString "len", .globalImplicit), (Str.ofString "goal_special", .globalImplicit), (Str.ofString "goal_terms", .globalImplicit), (Str.ofString "reversed", .globalImplicit)]
theorem nd_places_of : nm_places_of.lookup (Str.ofString "__debug__") = none := by decide
noncomputable def nm_crosses_call : List (Str × NameKind) := [(Str.ofString "kernel", .local), (Str.ofString "places", .local), (Str.ofString "at", .local), (Str.ofString "before", .local), (Str.ofString "behind", .local), (Str.ofString "place", .local), (Str.ofString "range", .globalImplicit), (Str.ofString "len", .globalImplicit)]
theorem nd_crosses_call : nm_crosses_call.lookup (Str.ofString "__debug__") = none := by decide
noncomputable def nm_check_plan : List (Str × NameKind) := [(Str.ofString "kernel", .local), (Str.ofString "plan", .local), (Str.ofString "places", .local), (Str.ofString "perms", .local), (Str.ofString "k", .local), (Str.ofString "one", .local), (Str.ofString "other", .local), (Str.ofString "places_of", .globalImplicit), (Str.ofString "sorted", .globalImplicit), (Str.ofString "check_variable", .globalImplicit), (Str.ofString "len", .globalImplicit), (Str.ofString "list", .globalImplicit), (Str.ofString "range", .globalImplicit), (Str.ofString "check_goals", .globalImplicit)]
theorem nd_check_plan : nm_check_plan.lookup (Str.ofString "__debug__") = none := by decide
noncomputable def nm_check_variable : List (Str × NameKind) := [(Str.ofString "kernel", .local), (Str.ofString "k", .local), (Str.ofString "places", .local), (Str.ofString "info", .local), (Str.ofString "crossing", .local), (Str.ofString "crosses_call", .globalImplicit), (Str.ofString "first_word", .globalImplicit), (Str.ofString "max", .globalImplicit), (Str.ofString "len", .globalImplicit)]
theorem nd_check_variable : nm_check_variable.lookup (Str.ofString "__debug__") = none := by decide
noncomputable def nm_first_word : List (Str × NameKind) := [(Str.ofString "places", .local), (Str.ofString "best", .local), (Str.ofString "place", .local)]
theorem nd_first_word : nm_first_word.lookup (Str.ofString "__debug__") = none := by decide
noncomputable def nm_check_goals : List (Str × NameKind) := [(Str.ofString "kernel", .local), (Str.ofString "plan", .local), (Str.ofString "places", .local), (Str.ofString "goals", .local), (Str.ofString "inner_call", .local), (Str.ofString "at", .local), (Str.ofString "calls", .local), (Str.ofString "before", .local), (Str.ofString "k", .local), (Str.ofString "info", .local), (Str.ofString "used_later", .local), (Str.ofString "place", .local), (Str.ofString "len", .globalImplicit), (Str.ofString "range", .globalImplicit)]
theorem nd_check_goals : nm_check_goals.lookup (Str.ofString "__debug__") = none := by decide
noncomputable def nm_variables : List (Str × NameKind) := [(Str.ofString "term", .local), (Str.ofString "variables_of", .globalImplicit)]
theorem nd_variables : nm_variables.lookup (Str.ofString "__debug__") = none := by decide
noncomputable def nm_variables_of : List (Str × NameKind) := [(Str.ofString "terms", .local), (Str.ofString "seen", .local), (Str.ofString "result", .local), (Str.ofString "todo", .local), (Str.ofString "term", .local), (Str.ofString "list", .globalImplicit), (Str.ofString "reversed", .globalImplicit)]
theorem nd_variables_of : nm_variables_of.lookup (Str.ofString "__debug__") = none := by decide
noncomputable def nm_occurrences : List (Str × NameKind) := [(Str.ofString "term", .local), (Str.ofString "counts", .local), (Str.ofString "todo", .local), (Str.ofString "part", .local), (Str.ofString "reversed", .globalImplicit)]
theorem nd_occurrences : nm_occurrences.lookup (Str.ofString "__debug__") = none := by decide
noncomputable def nm_VarInfoInit : List (Str × NameKind) := [(Str.ofString "self", .local), (Str.ofString "k", .local), (Str.ofString "first", .local)]
theorem nd_VarInfoInit : nm_VarInfoInit.lookup (Str.ofString "__debug__") = none := by decide
noncomputable def nm_ClausePlanInit : List (Str × NameKind) := [(Str.ofString "self", .local), (Str.ofString "infos", .local), (Str.ofString "chunks", .local), (Str.ofString "needs_env", .local), (Str.ofString "env_size", .local), (Str.ofString "live_after", .local)]
theorem nd_ClausePlanInit : nm_ClausePlanInit.lookup (Str.ofString "__debug__") = none := by decide
noncomputable def nm_chunk_numbers : List (Str × NameKind) := [(Str.ofString "goals", .local), (Str.ofString "chunks", .local), (Str.ofString "chunk", .local), (Str.ofString "goal", .local)]
theorem nd_chunk_numbers : nm_chunk_numbers.lookup (Str.ofString "__debug__") = none := by decide
noncomputable def nm_SurveyInit : List (Str × NameKind) := [(Str.ofString "self", .local)]
theorem nd_SurveyInit : nm_SurveyInit.lookup (Str.ofString "__debug__") = none := by decide
noncomputable def nm_Surveymeet : List (Str × NameKind) := [(Str.ofString "self", .local), (Str.ofString "k", .local), (Str.ofString "first", .local), (Str.ofString "goal", .local), (Str.ofString "chunk", .local), (Str.ofString "count", .local), (Str.ofString "info", .local), (Str.ofString "VarInfo", .globalImplicit)]
theorem nd_Surveymeet : nm_Surveymeet.lookup (Str.ofString "__debug__") = none := by decide
noncomputable def nm_Surveyterms : List (Str × NameKind) := [(Str.ofString "self", .local), (Str.ofString "terms", .local), (Str.ofString "place", .local), (Str.ofString "goal", .local), (Str.ofString "chunk", .local), (Str.ofString "term", .local), (Str.ofString "counts", .local), (Str.ofString "k", .local), (Str.ofString "occurrences", .globalImplicit), (Str.ofString "variables", .globalImplicit)]
theorem nd_Surveyterms : nm_Surveyterms.lookup (Str.ofString "__debug__") = none := by decide
noncomputable def nm_kind_of : List (Str × NameKind) := [(Str.ofString "info", .local)]
theorem nd_kind_of : nm_kind_of.lookup (Str.ofString "__debug__") = none := by decide
noncomputable def nm_slot_order : List (Str × NameKind) := [(Str.ofString "infos", .local), (Str.ofString "order", .local), (Str.ofString "k", .local), (Str.ofString "info", .local), (Str.ofString "at", .local), (Str.ofString "sorted", .globalImplicit), (Str.ofString "len", .globalImplicit)]
theorem nd_slot_order : nm_slot_order.lookup (Str.ofString "__debug__") = none := by decide
noncomputable def nm_classify : List (Str × NameKind) := [(Str.ofString "kernel", .local), (Str.ofString "goals", .local), (Str.ofString "chunks", .local), (Str.ofString "survey", .local), (Str.ofString "needs_env", .local), (Str.ofString "at", .local), (Str.ofString "goal", .local), (Str.ofString "special", .local), (Str.ofString "infos", .local), (Str.ofString "k", .local), (Str.ofString "order", .local), (Str.ofString "info", .local), (Str.ofString "live_after", .local), (Str.ofString "live", .local), (Str.ofString "chunk_numbers", .globalImplicit), (Str.ofString "Survey", .globalImplicit), (Str.ofString "range", .globalImplicit), (Str.ofString "len", .globalImplicit), (Str.ofString "goal_special", .globalImplicit), (Str.ofString "goal_terms", .globalImplicit), (Str.ofString "kind_of", .globalImplicit), (Str.ofString "slot_order", .globalImplicit), (Str.ofString "ClausePlan", .globalImplicit)]
theorem nd_classify : nm_classify.lookup (Str.ofString "__debug__") = none := by decide
noncomputable def nm_law_coins : List (Str × NameKind) := [(Str.ofString "script", .local), (Str.ofString "coins", .local), (Str.ofString "cell", .local), (Str.ofString "left", .local), (Str.ofString "lap", .local), (Str.ofString "abs", .globalImplicit), (Str.ofString "range", .globalImplicit), (Str.ofString "len", .globalImplicit)]
theorem nd_law_coins : nm_law_coins.lookup (Str.ofString "__debug__") = none := by decide
noncomputable def nm_law_coin : List (Str × NameKind) := [(Str.ofString "coins", .local), (Str.ofString "sides", .local)]
theorem nd_law_coin : nm_law_coin.lookup (Str.ofString "__debug__") = none := by decide
noncomputable def nm_law_thing : List (Str × NameKind) := [(Str.ofString "coins", .local), (Str.ofString "deep", .local), (Str.ofString "way", .local), (Str.ofString "_law_coin", .globalImplicit), (Str.ofString "_law_thing", .globalImplicit)]
theorem nd_law_thing : nm_law_thing.lookup (Str.ofString "__debug__") = none := by decide
noncomputable def nm_law_things : List (Str × NameKind) := [(Str.ofString "coins", .cell), (Str.ofString "tuple", .globalImplicit), (Str.ofString "range", .globalImplicit), (Str.ofString "_law_coin", .globalImplicit)]
theorem nd_law_things : nm_law_things.lookup (Str.ofString "__debug__") = none := by decide
noncomputable def nm_law_goal : List (Str × NameKind) := [(Str.ofString "coins", .local), (Str.ofString "way", .local), (Str.ofString "side", .local), (Str.ofString "_law_coin", .globalImplicit), (Str.ofString "_law_things", .globalImplicit), (Str.ofString "_law_thing", .globalImplicit)]
theorem nd_law_goal : nm_law_goal.lookup (Str.ofString "__debug__") = none := by decide
noncomputable def nm_law_say : List (Str × NameKind) := [(Str.ofString "plan", .local), (Str.ofString "rows", .local), (Str.ofString "number", .local), (Str.ofString "info", .local), (Str.ofString "sorted", .globalImplicit), (Str.ofString "list", .globalImplicit)]
theorem nd_law_say : nm_law_say.lookup (Str.ofString "__debug__") = none := by decide
noncomputable def nm_law_change : List (Str × NameKind) := [(Str.ofString "coins", .local), (Str.ofString "plan", .local), (Str.ofString "way", .local), (Str.ofString "numbers", .local), (Str.ofString "at", .local), (Str.ofString "value", .local), (Str.ofString "info", .local), (Str.ofString "other", .local), (Str.ofString "kept", .local), (Str.ofString "_law_coin", .globalImplicit), (Str.ofString "sorted", .globalImplicit), (Str.ofString "len", .globalImplicit)]
theorem nd_law_change : nm_law_change.lookup (Str.ofString "__debug__") = none := by decide
noncomputable def nm_law : List (Str × NameKind) := [(Str.ofString "script", .local), (Str.ofString "coins", .cell), (Str.ofString "args", .local), (Str.ofString "lap", .local), (Str.ofString "goals", .local), (Str.ofString "kernel", .local), (Str.ofString "plan", .local), (Str.ofString "_law_coins", .globalImplicit), (Str.ofString "_law_things", .globalImplicit), (Str.ofString "range", .globalImplicit), (Str.ofString "_law_coin", .globalImplicit), (Str.ofString "KernelClause", .globalImplicit), (Str.ofString "classify", .globalImplicit), (Str.ofString "check_plan", .globalImplicit), (Str.ofString "_law_change", .globalImplicit), (Str.ofString "_law_say", .globalImplicit)]
theorem nd_law : nm_law.lookup (Str.ofString "__debug__") = none := by decide
theorem gl_ClausePlan (P : Params) : nsIn (KK P) mainGlobals (Str.ofString "ClausePlan") = some (some (.ref 188)) := by kernel_rfl
theorem kp_ClausePlan (P : Params) : keepIn (KK P) (.ref 188) = true := by kernel_rfl
theorem gl_KernelClause (P : Params) : nsIn (KK P) mainGlobals (Str.ofString "KernelClause") = some (some (.ref 38)) := by kernel_rfl
theorem kp_KernelClause (P : Params) : keepIn (KK P) (.ref 38) = true := by kernel_rfl
theorem gl_Survey (P : Params) : nsIn (KK P) mainGlobals (Str.ofString "Survey") = some (some (.ref 230)) := by kernel_rfl
theorem kp_Survey (P : Params) : keepIn (KK P) (.ref 230) = true := by kernel_rfl
theorem gl_VarInfo (P : Params) : nsIn (KK P) mainGlobals (Str.ofString "VarInfo") = some (some (.ref 132)) := by kernel_rfl
theorem kp_VarInfo (P : Params) : keepIn (KK P) (.ref 132) = true := by kernel_rfl
theorem gl_law_change (P : Params) : nsIn (KK P) mainGlobals (Str.ofString "_law_change") = some (some (.ref 302)) := by kernel_rfl
theorem kp_law_change (P : Params) : keepIn (KK P) (.ref 302) = true := by kernel_rfl
theorem gl_law_coin (P : Params) : nsIn (KK P) mainGlobals (Str.ofString "_law_coin") = some (some (.ref 269)) := by kernel_rfl
theorem kp_law_coin (P : Params) : keepIn (KK P) (.ref 269) = true := by kernel_rfl
theorem gl_law_coins (P : Params) : nsIn (KK P) mainGlobals (Str.ofString "_law_coins") = some (some (.ref 262)) := by kernel_rfl
theorem kp_law_coins (P : Params) : keepIn (KK P) (.ref 262) = true := by kernel_rfl
theorem gl_law_say (P : Params) : nsIn (KK P) mainGlobals (Str.ofString "_law_say") = some (some (.ref 295)) := by kernel_rfl
theorem kp_law_say (P : Params) : keepIn (KK P) (.ref 295) = true := by kernel_rfl
theorem gl_law_thing (P : Params) : nsIn (KK P) mainGlobals (Str.ofString "_law_thing") = some (some (.ref 276)) := by kernel_rfl
theorem kp_law_thing (P : Params) : keepIn (KK P) (.ref 276) = true := by kernel_rfl
theorem gl_law_things (P : Params) : nsIn (KK P) mainGlobals (Str.ofString "_law_things") = some (some (.ref 281)) := by kernel_rfl
theorem kp_law_things (P : Params) : keepIn (KK P) (.ref 281) = true := by kernel_rfl
theorem gl_check_goals (P : Params) : nsIn (KK P) mainGlobals (Str.ofString "check_goals") = some (some (.ref 94)) := by kernel_rfl
theorem kp_check_goals (P : Params) : keepIn (KK P) (.ref 94) = true := by kernel_rfl
theorem gl_check_plan (P : Params) : nsIn (KK P) mainGlobals (Str.ofString "check_plan") = some (some (.ref 75)) := by kernel_rfl
theorem kp_check_plan (P : Params) : keepIn (KK P) (.ref 75) = true := by kernel_rfl
theorem gl_check_variable (P : Params) : nsIn (KK P) mainGlobals (Str.ofString "check_variable") = some (some (.ref 80)) := by kernel_rfl
theorem kp_check_variable (P : Params) : keepIn (KK P) (.ref 80) = true := by kernel_rfl
theorem gl_chunk_numbers (P : Params) : nsIn (KK P) mainGlobals (Str.ofString "chunk_numbers") = some (some (.ref 199)) := by kernel_rfl
theorem kp_chunk_numbers (P : Params) : keepIn (KK P) (.ref 199) = true := by kernel_rfl
theorem gl_classify (P : Params) : nsIn (KK P) mainGlobals (Str.ofString "classify") = some (some (.ref 255)) := by kernel_rfl
theorem kp_classify (P : Params) : keepIn (KK P) (.ref 255) = true := by kernel_rfl
theorem gl_crosses_call (P : Params) : nsIn (KK P) mainGlobals (Str.ofString "crosses_call") = some (some (.ref 70)) := by kernel_rfl
theorem kp_crosses_call (P : Params) : keepIn (KK P) (.ref 70) = true := by kernel_rfl
theorem gl_first_word (P : Params) : nsIn (KK P) mainGlobals (Str.ofString "first_word") = some (some (.ref 87)) := by kernel_rfl
theorem kp_first_word (P : Params) : keepIn (KK P) (.ref 87) = true := by kernel_rfl
theorem gl_goal_special (P : Params) : nsIn (KK P) mainGlobals (Str.ofString "goal_special") = some (some (.ref 56)) := by kernel_rfl
theorem kp_goal_special (P : Params) : keepIn (KK P) (.ref 56) = true := by kernel_rfl
theorem gl_goal_terms (P : Params) : nsIn (KK P) mainGlobals (Str.ofString "goal_terms") = some (some (.ref 49)) := by kernel_rfl
theorem kp_goal_terms (P : Params) : keepIn (KK P) (.ref 49) = true := by kernel_rfl
theorem gl_kind_of (P : Params) : nsIn (KK P) mainGlobals (Str.ofString "kind_of") = some (some (.ref 241)) := by kernel_rfl
theorem kp_kind_of (P : Params) : keepIn (KK P) (.ref 241) = true := by kernel_rfl
theorem gl_occurrences (P : Params) : nsIn (KK P) mainGlobals (Str.ofString "occurrences") = some (some (.ref 115)) := by kernel_rfl
theorem kp_occurrences (P : Params) : keepIn (KK P) (.ref 115) = true := by kernel_rfl
theorem gl_places_of (P : Params) : nsIn (KK P) mainGlobals (Str.ofString "places_of") = some (some (.ref 63)) := by kernel_rfl
theorem kp_places_of (P : Params) : keepIn (KK P) (.ref 63) = true := by kernel_rfl
theorem gl_slot_order (P : Params) : nsIn (KK P) mainGlobals (Str.ofString "slot_order") = some (some (.ref 248)) := by kernel_rfl
theorem kp_slot_order (P : Params) : keepIn (KK P) (.ref 248) = true := by kernel_rfl
theorem gl_variables (P : Params) : nsIn (KK P) mainGlobals (Str.ofString "variables") = some (some (.ref 101)) := by kernel_rfl
theorem kp_variables (P : Params) : keepIn (KK P) (.ref 101) = true := by kernel_rfl
theorem gl_variables_of (P : Params) : nsIn (KK P) mainGlobals (Str.ofString "variables_of") = some (some (.ref 108)) := by kernel_rfl
theorem kp_variables_of (P : Params) : keepIn (KK P) (.ref 108) = true := by kernel_rfl
theorem gl_abs (P : Params) : nsIn (KK P) mainGlobals (Str.ofString "abs") = some none := by kernel_rfl
theorem bo_abs : bootBuiltins (Str.ofString "abs") = some (.builtin "abs") := by kernel_rfl
theorem nn_abs : ¬ Str.ofString "abs" = Str.ofString "__name__" := by decide
theorem gl_len (P : Params) : nsIn (KK P) mainGlobals (Str.ofString "len") = some none := by kernel_rfl
theorem bo_len : bootBuiltins (Str.ofString "len") = some (.builtin "len") := by kernel_rfl
theorem nn_len : ¬ Str.ofString "len" = Str.ofString "__name__" := by decide
theorem gl_list (P : Params) : nsIn (KK P) mainGlobals (Str.ofString "list") = some none := by kernel_rfl
theorem bo_list : bootBuiltins (Str.ofString "list") = some (.type "list") := by kernel_rfl
theorem nn_list : ¬ Str.ofString "list" = Str.ofString "__name__" := by decide
theorem gl_max (P : Params) : nsIn (KK P) mainGlobals (Str.ofString "max") = some none := by kernel_rfl
theorem bo_max : bootBuiltins (Str.ofString "max") = some (.builtin "max") := by kernel_rfl
theorem nn_max : ¬ Str.ofString "max" = Str.ofString "__name__" := by decide
theorem gl_range (P : Params) : nsIn (KK P) mainGlobals (Str.ofString "range") = some none := by kernel_rfl
theorem bo_range : bootBuiltins (Str.ofString "range") = some (.type "range") := by kernel_rfl
theorem nn_range : ¬ Str.ofString "range" = Str.ofString "__name__" := by decide
theorem gl_reversed (P : Params) : nsIn (KK P) mainGlobals (Str.ofString "reversed") = some none := by kernel_rfl
theorem bo_reversed : bootBuiltins (Str.ofString "reversed") = some (.type "reversed") := by kernel_rfl
theorem nn_reversed : ¬ Str.ofString "reversed" = Str.ofString "__name__" := by decide
theorem gl_sorted (P : Params) : nsIn (KK P) mainGlobals (Str.ofString "sorted") = some none := by kernel_rfl
theorem bo_sorted : bootBuiltins (Str.ofString "sorted") = some (.builtin "sorted") := by kernel_rfl
theorem nn_sorted : ¬ Str.ofString "sorted" = Str.ofString "__name__" := by decide
theorem gl_tuple (P : Params) : nsIn (KK P) mainGlobals (Str.ofString "tuple") = some none := by kernel_rfl
theorem bo_tuple : bootBuiltins (Str.ofString "tuple") = some (.type "tuple") := by kernel_rfl
theorem nn_tuple : ¬ Str.ofString "tuple" = Str.ofString "__name__" := by decide

noncomputable def fdOf (P : Params) (a : Addr) : FuncData := match (KK P).lookup a with | some ⟨_, _, .func fd, _⟩ => fd | _ => default
noncomputable def bodyOf (P : Params) (a : Addr) : List Stmt := match (fdOf P a).body with | .stmts b => b | _ => []
theorem bind1 {fd : FuncData} {names : List Str} (h : ∀ a0 : Value, bindArgs fd ⟨[a0], []⟩ = pure (names.zip [a0])) : ∀ args' : List Value, args'.length = 1 → bindArgs fd ⟨args', []⟩ = pure (names.zip args') := by
  intro l e
  rcases l with _ | ⟨a0, l1⟩; (cases e)
  rcases l1 with _ | ⟨b, l⟩; (exact h a0); (simp at e)
theorem bind2 {fd : FuncData} {names : List Str} (h : ∀ a0 a1 : Value, bindArgs fd ⟨[a0, a1], []⟩ = pure (names.zip [a0, a1])) : ∀ args' : List Value, args'.length = 2 → bindArgs fd ⟨args', []⟩ = pure (names.zip args') := by
  intro l e
  rcases l with _ | ⟨a0, l1⟩; (cases e)
  rcases l1 with _ | ⟨a1, l2⟩; (cases e)
  rcases l2 with _ | ⟨b, l⟩; (exact h a0 a1); (simp at e)
theorem bind3 {fd : FuncData} {names : List Str} (h : ∀ a0 a1 a2 : Value, bindArgs fd ⟨[a0, a1, a2], []⟩ = pure (names.zip [a0, a1, a2])) : ∀ args' : List Value, args'.length = 3 → bindArgs fd ⟨args', []⟩ = pure (names.zip args') := by
  intro l e
  rcases l with _ | ⟨a0, l1⟩; (cases e)
  rcases l1 with _ | ⟨a1, l2⟩; (cases e)
  rcases l2 with _ | ⟨a2, l3⟩; (cases e)
  rcases l3 with _ | ⟨b, l⟩; (exact h a0 a1 a2); (simp at e)
theorem bind4 {fd : FuncData} {names : List Str} (h : ∀ a0 a1 a2 a3 : Value, bindArgs fd ⟨[a0, a1, a2, a3], []⟩ = pure (names.zip [a0, a1, a2, a3])) : ∀ args' : List Value, args'.length = 4 → bindArgs fd ⟨args', []⟩ = pure (names.zip args') := by
  intro l e
  rcases l with _ | ⟨a0, l1⟩; (cases e)
  rcases l1 with _ | ⟨a1, l2⟩; (cases e)
  rcases l2 with _ | ⟨a2, l3⟩; (cases e)
  rcases l3 with _ | ⟨a3, l4⟩; (cases e)
  rcases l4 with _ | ⟨b, l⟩; (exact h a0 a1 a2 a3); (simp at e)
theorem bind5 {fd : FuncData} {names : List Str} (h : ∀ a0 a1 a2 a3 a4 : Value, bindArgs fd ⟨[a0, a1, a2, a3, a4], []⟩ = pure (names.zip [a0, a1, a2, a3, a4])) : ∀ args' : List Value, args'.length = 5 → bindArgs fd ⟨args', []⟩ = pure (names.zip args') := by
  intro l e
  rcases l with _ | ⟨a0, l1⟩; (cases e)
  rcases l1 with _ | ⟨a1, l2⟩; (cases e)
  rcases l2 with _ | ⟨a2, l3⟩; (cases e)
  rcases l3 with _ | ⟨a3, l4⟩; (cases e)
  rcases l4 with _ | ⟨a4, l5⟩; (cases e)
  rcases l5 with _ | ⟨b, l⟩; (exact h a0 a1 a2 a3 a4); (simp at e)
theorem bind6 {fd : FuncData} {names : List Str} (h : ∀ a0 a1 a2 a3 a4 a5 : Value, bindArgs fd ⟨[a0, a1, a2, a3, a4, a5], []⟩ = pure (names.zip [a0, a1, a2, a3, a4, a5])) : ∀ args' : List Value, args'.length = 6 → bindArgs fd ⟨args', []⟩ = pure (names.zip args') := by
  intro l e
  rcases l with _ | ⟨a0, l1⟩; (cases e)
  rcases l1 with _ | ⟨a1, l2⟩; (cases e)
  rcases l2 with _ | ⟨a2, l3⟩; (cases e)
  rcases l3 with _ | ⟨a3, l4⟩; (cases e)
  rcases l4 with _ | ⟨a4, l5⟩; (cases e)
  rcases l5 with _ | ⟨a5, l6⟩; (cases e)
  rcases l6 with _ | ⟨b, l⟩; (exact h a0 a1 a2 a3 a4 a5); (simp at e)
/-- all that a call of a plain def of the text wants -/
structure FnOk (P : Params) (a : Addr) (names : List Str) (nm : List (Str × NameKind)) : Prop where
  at_ : (KK P).lookup a = some ⟨.type "function", none, .func (fdOf P a), #[]⟩
  body : (fdOf P a).body = .stmts (bodyOf P a)
  co : (fdOf P a).scope.isCoroutine = false
  gen : (fdOf P a).scope.isGenerator = false
  kind : (fdOf P a).scope.kind = .function
  code : codeIn (KK P) (fdOf P a).code (fdOf P a).qualname = true
  gl : (fdOf P a).globals = mainGlobals
  bl : (fdOf P a).builtins = builtinsNs
  clos : (fdOf P a).closure = []
  nms : (fdOf P a).scope.names = nm
  dbg : nm.lookup (Str.ofString "__debug__") = none
  bind : ∀ args' : List Value, args'.length = names.length → bindArgs (fdOf P a) ⟨args', []⟩ = pure (names.zip args')
  nd : names.Nodup
theorem fn_KernelClauseInit (P : Params) : FnOk P 35 [Str.ofString "self", Str.ofString "functor", Str.ofString "args", Str.ofString "goals", Str.ofString "count"] nm_KernelClauseInit where
  at_ := by kernel_rfl
  body := by kernel_rfl
  co := by kernel_rfl
  gen := by kernel_rfl
  kind := by kernel_rfl
  code := by kernel_rfl
  gl := by kernel_rfl
  bl := by kernel_rfl
  clos := by kernel_rfl
  nms := by kernel_rfl
  dbg := nd_KernelClauseInit
  bind := bind5 fun _ _ _ _ _ => by kernel_rfl
  nd := by decide
theorem loc_KernelClauseInit : (∀ x ∈ ([Str.ofString "self", Str.ofString "functor", Str.ofString "args", Str.ofString "goals", Str.ofString "count"] : List Str), nm_KernelClauseInit.lookup x = some .local) ∧ ∀ x ∈ nm_KernelClauseInit, x.2 ≠ .cell := ⟨by decide, by decide⟩
theorem fn_goal_terms (P : Params) : FnOk P 49 [Str.ofString "goal"] nm_goal_terms where
  at_ := by kernel_rfl
  body := by kernel_rfl
  co := by kernel_rfl
  gen := by kernel_rfl
  kind := by kernel_rfl
  code := by kernel_rfl
  gl := by kernel_rfl
  bl := by kernel_rfl
  clos := by kernel_rfl
  nms := by kernel_rfl
  dbg := nd_goal_terms
  bind := bind1 fun _ => by kernel_rfl
  nd := by decide
theorem loc_goal_terms : (∀ x ∈ ([Str.ofString "goal"] : List Str), nm_goal_terms.lookup x = some .local) ∧ ∀ x ∈ nm_goal_terms, x.2 ≠ .cell := ⟨by decide, by decide⟩
theorem fn_goal_special (P : Params) : FnOk P 56 [Str.ofString "goal"] nm_goal_special where
  at_ := by kernel_rfl
  body := by kernel_rfl
  co := by kernel_rfl
  gen := by kernel_rfl
  kind := by kernel_rfl
  code := by kernel_rfl
  gl := by kernel_rfl
  bl := by kernel_rfl
  clos := by kernel_rfl
  nms := by kernel_rfl
  dbg := nd_goal_special
  bind := bind1 fun _ => by kernel_rfl
  nd := by decide
theorem loc_goal_special : (∀ x ∈ ([Str.ofString "goal"] : List Str), nm_goal_special.lookup x = some .local) ∧ ∀ x ∈ nm_goal_special, x.2 ≠ .cell := ⟨by decide, by decide⟩
theorem fn_places_of (P : Params) : FnOk P 63 [Str.ofString "kernel"] nm_places_of where
  at_ := by kernel_rfl
  body := by kernel_rfl
  co := by kernel_rfl
  gen := by kernel_rfl
  kind := by kernel_rfl
  code := by kernel_rfl
  gl := by kernel_rfl
  bl := by kernel_rfl
  clos := by kernel_rfl
  nms := by kernel_rfl
  dbg := nd_places_of
  bind := bind1 fun _ => by kernel_rfl
  nd := by decide
theorem loc_places_of : (∀ x ∈ ([Str.ofString "kernel"] : List Str), nm_places_of.lookup x = some .local) ∧ ∀ x ∈ nm_places_of, x.2 ≠ .cell := ⟨by decide, by decide⟩
theorem fn_crosses_call (P : Params) : FnOk P 70 [Str.ofString "kernel", Str.ofString "places"] nm_crosses_call where
  at_ := by kernel_rfl
  body := by kernel_rfl
  co := by kernel_rfl
  gen := by kernel_rfl
  kind := by kernel_rfl
  code := by kernel_rfl
  gl := by kernel_rfl
  bl := by kernel_rfl
  clos := by kernel_rfl
  nms := by kernel_rfl
  dbg := nd_crosses_call
  bind := bind2 fun _ _ => by kernel_rfl
  nd := by decide
theorem loc_crosses_call : (∀ x ∈ ([Str.ofString "kernel", Str.ofString "places"] : List Str), nm_crosses_call.lookup x = some .local) ∧ ∀ x ∈ nm_crosses_call, x.2 ≠ .cell := ⟨by decide, by decide⟩
theorem fn_check_plan (P : Params) : FnOk P 75 [Str.ofString "kernel", Str.ofString "plan"] nm_check_plan where
  at_ := by kernel_rfl
  body := by kernel_rfl
  co := by kernel_rfl
  gen := by kernel_rfl
  kind := by kernel_rfl
  code := by kernel_rfl
  gl := by kernel_rfl
  bl := by kernel_rfl
  clos := by kernel_rfl
  nms := by kernel_rfl
  dbg := nd_check_plan
  bind := bind2 fun _ _ => by kernel_rfl
  nd := by decide
theorem loc_check_plan : (∀ x ∈ ([Str.ofString "kernel", Str.ofString "plan"] : List Str), nm_check_plan.lookup x = some .local) ∧ ∀ x ∈ nm_check_plan, x.2 ≠ .cell := ⟨by decide, by decide⟩
theorem fn_check_variable (P : Params) : FnOk P 80 [Str.ofString "kernel", Str.ofString "k", Str.ofString "places", Str.ofString "info"] nm_check_variable where
  at_ := by kernel_rfl
  body := by kernel_rfl
  co := by kernel_rfl
  gen := by kernel_rfl
  kind := by kernel_rfl
  code := by kernel_rfl
  gl := by kernel_rfl
  bl := by kernel_rfl
  clos := by kernel_rfl
  nms := by kernel_rfl
  dbg := nd_check_variable
  bind := bind4 fun _ _ _ _ => by kernel_rfl
  nd := by decide
theorem loc_check_variable : (∀ x ∈ ([Str.ofString "kernel", Str.ofString "k", Str.ofString "places", Str.ofString "info"] : List Str), nm_check_variable.lookup x = some .local) ∧ ∀ x ∈ nm_check_variable, x.2 ≠ .cell := ⟨by decide, by decide⟩
theorem fn_first_word (P : Params) : FnOk P 87 [Str.ofString "places"] nm_first_word where
  at_ := by kernel_rfl
  body := by kernel_rfl
  co := by kernel_rfl
  gen := by kernel_rfl
  kind := by kernel_rfl
  code := by kernel_rfl
  gl := by kernel_rfl
  bl := by kernel_rfl
  clos := by kernel_rfl
  nms := by kernel_rfl
  dbg := nd_first_word
  bind := bind1 fun _ => by kernel_rfl
  nd := by decide
theorem loc_first_word : (∀ x ∈ ([Str.ofString "places"] : List Str), nm_first_word.lookup x = some .local) ∧ ∀ x ∈ nm_first_word, x.2 ≠ .cell := ⟨by decide, by decide⟩
theorem fn_check_goals (P : Params) : FnOk P 94 [Str.ofString "kernel", Str.ofString "plan", Str.ofString "places"] nm_check_goals where
  at_ := by kernel_rfl
  body := by kernel_rfl
  co := by kernel_rfl
  gen := by kernel_rfl
  kind := by kernel_rfl
  code := by kernel_rfl
  gl := by kernel_rfl
  bl := by kernel_rfl
  clos := by kernel_rfl
  nms := by kernel_rfl
  dbg := nd_check_goals
  bind := bind3 fun _ _ _ => by kernel_rfl
  nd := by decide
theorem loc_check_goals : (∀ x ∈ ([Str.ofString "kernel", Str.ofString "plan", Str.ofString "places"] : List Str), nm_check_goals.lookup x = some .local) ∧ ∀ x ∈ nm_check_goals, x.2 ≠ .cell := ⟨by decide, by decide⟩
theorem fn_variables (P : Params) : FnOk P 101 [Str.ofString "term"] nm_variables where
  at_ := by kernel_rfl
  body := by kernel_rfl
  co := by kernel_rfl
  gen := by kernel_rfl
  kind := by kernel_rfl
  code := by kernel_rfl
  gl := by kernel_rfl
  bl := by kernel_rfl
  clos := by kernel_rfl
  nms := by kernel_rfl
  dbg := nd_variables
  bind := bind1 fun _ => by kernel_rfl
  nd := by decide
theorem loc_variables : (∀ x ∈ ([Str.ofString "term"] : List Str), nm_variables.lookup x = some .local) ∧ ∀ x ∈ nm_variables, x.2 ≠ .cell := ⟨by decide, by decide⟩
theorem fn_variables_of (P : Params) : FnOk P 108 [Str.ofString "terms"] nm_variables_of where
  at_ := by kernel_rfl
  body := by kernel_rfl
  co := by kernel_rfl
  gen := by kernel_rfl
  kind := by kernel_rfl
  code := by kernel_rfl
  gl := by kernel_rfl
  bl := by kernel_rfl
  clos := by kernel_rfl
  nms := by kernel_rfl
  dbg := nd_variables_of
  bind := bind1 fun _ => by kernel_rfl
  nd := by decide
theorem loc_variables_of : (∀ x ∈ ([Str.ofString "terms"] : List Str), nm_variables_of.lookup x = some .local) ∧ ∀ x ∈ nm_variables_of, x.2 ≠ .cell := ⟨by decide, by decide⟩
theorem fn_occurrences (P : Params) : FnOk P 115 [Str.ofString "term"] nm_occurrences where
  at_ := by kernel_rfl
  body := by kernel_rfl
  co := by kernel_rfl
  gen := by kernel_rfl
  kind := by kernel_rfl
  code := by kernel_rfl
  gl := by kernel_rfl
  bl := by kernel_rfl
  clos := by kernel_rfl
  nms := by kernel_rfl
  dbg := nd_occurrences
  bind := bind1 fun _ => by kernel_rfl
  nd := by decide
theorem loc_occurrences : (∀ x ∈ ([Str.ofString "term"] : List Str), nm_occurrences.lookup x = some .local) ∧ ∀ x ∈ nm_occurrences, x.2 ≠ .cell := ⟨by decide, by decide⟩
theorem fn_VarInfoInit (P : Params) : FnOk P 129 [Str.ofString "self", Str.ofString "k", Str.ofString "first"] nm_VarInfoInit where
  at_ := by kernel_rfl
  body := by kernel_rfl
  co := by kernel_rfl
  gen := by kernel_rfl
  kind := by kernel_rfl
  code := by kernel_rfl
  gl := by kernel_rfl
  bl := by kernel_rfl
  clos := by kernel_rfl
  nms := by kernel_rfl
  dbg := nd_VarInfoInit
  bind := bind3 fun _ _ _ => by kernel_rfl
  nd := by decide
theorem loc_VarInfoInit : (∀ x ∈ ([Str.ofString "self", Str.ofString "k", Str.ofString "first"] : List Str), nm_VarInfoInit.lookup x = some .local) ∧ ∀ x ∈ nm_VarInfoInit, x.2 ≠ .cell := ⟨by decide, by decide⟩
theorem fn_ClausePlanInit (P : Params) : FnOk P 150 [Str.ofString "self", Str.ofString "infos", Str.ofString "chunks", Str.ofString "needs_env", Str.ofString "env_size", Str.ofString "live_after"] nm_ClausePlanInit where
  at_ := by kernel_rfl
  body := by kernel_rfl
  co := by kernel_rfl
  gen := by kernel_rfl
  kind := by kernel_rfl
  code := by kernel_rfl
  gl := by kernel_rfl
  bl := by kernel_rfl
  clos := by kernel_rfl
  nms := by kernel_rfl
  dbg := nd_ClausePlanInit
  bind := bind6 fun _ _ _ _ _ _ => by kernel_rfl
  nd := by decide
theorem loc_ClausePlanInit : (∀ x ∈ ([Str.ofString "self", Str.ofString "infos", Str.ofString "chunks", Str.ofString "needs_env", Str.ofString "env_size", Str.ofString "live_after"] : List Str), nm_ClausePlanInit.lookup x = some .local) ∧ ∀ x ∈ nm_ClausePlanInit, x.2 ≠ .cell := ⟨by decide, by decide⟩
theorem fn_chunk_numbers (P : Params) : FnOk P 199 [Str.ofString "goals"] nm_chunk_numbers where
  at_ := by kernel_rfl
  body := by kernel_rfl
  co := by kernel_rfl
  gen := by kernel_rfl
  kind := by kernel_rfl
  code := by kernel_rfl
  gl := by kernel_rfl
  bl := by kernel_rfl
  clos := by kernel_rfl
  nms := by kernel_rfl
  dbg := nd_chunk_numbers
  bind := bind1 fun _ => by kernel_rfl
  nd := by decide
theorem loc_chunk_numbers : (∀ x ∈ ([Str.ofString "goals"] : List Str), nm_chunk_numbers.lookup x = some .local) ∧ ∀ x ∈ nm_chunk_numbers, x.2 ≠ .cell := ⟨by decide, by decide⟩
theorem fn_SurveyInit (P : Params) : FnOk P 213 [Str.ofString "self"] nm_SurveyInit where
  at_ := by kernel_rfl
  body := by kernel_rfl
  co := by kernel_rfl
  gen := by kernel_rfl
  kind := by kernel_rfl
  code := by kernel_rfl
  gl := by kernel_rfl
  bl := by kernel_rfl
  clos := by kernel_rfl
  nms := by kernel_rfl
  dbg := nd_SurveyInit
  bind := bind1 fun _ => by kernel_rfl
  nd := by decide
theorem loc_SurveyInit : (∀ x ∈ ([Str.ofString "self"] : List Str), nm_SurveyInit.lookup x = some .local) ∧ ∀ x ∈ nm_SurveyInit, x.2 ≠ .cell := ⟨by decide, by decide⟩
theorem fn_Surveymeet (P : Params) : FnOk P 220 [Str.ofString "self", Str.ofString "k", Str.ofString "first", Str.ofString "goal", Str.ofString "chunk", Str.ofString "count"] nm_Surveymeet where
  at_ := by kernel_rfl
  body := by kernel_rfl
  co := by kernel_rfl
  gen := by kernel_rfl
  kind := by kernel_rfl
  code := by kernel_rfl
  gl := by kernel_rfl
  bl := by kernel_rfl
  clos := by kernel_rfl
  nms := by kernel_rfl
  dbg := nd_Surveymeet
  bind := bind6 fun _ _ _ _ _ _ => by kernel_rfl
  nd := by decide
theorem loc_Surveymeet : (∀ x ∈ ([Str.ofString "self", Str.ofString "k", Str.ofString "first", Str.ofString "goal", Str.ofString "chunk", Str.ofString "count"] : List Str), nm_Surveymeet.lookup x = some .local) ∧ ∀ x ∈ nm_Surveymeet, x.2 ≠ .cell := ⟨by decide, by decide⟩
theorem fn_Surveyterms (P : Params) : FnOk P 227 [Str.ofString "self", Str.ofString "terms", Str.ofString "place", Str.ofString "goal", Str.ofString "chunk"] nm_Surveyterms where
  at_ := by kernel_rfl
  body := by kernel_rfl
  co := by kernel_rfl
  gen := by kernel_rfl
  kind := by kernel_rfl
  code := by kernel_rfl
  gl := by kernel_rfl
  bl := by kernel_rfl
  clos := by kernel_rfl
  nms := by kernel_rfl
  dbg := nd_Surveyterms
  bind := bind5 fun _ _ _ _ _ => by kernel_rfl
  nd := by decide
theorem loc_Surveyterms : (∀ x ∈ ([Str.ofString "self", Str.ofString "terms", Str.ofString "place", Str.ofString "goal", Str.ofString "chunk"] : List Str), nm_Surveyterms.lookup x = some .local) ∧ ∀ x ∈ nm_Surveyterms, x.2 ≠ .cell := ⟨by decide, by decide⟩
theorem fn_kind_of (P : Params) : FnOk P 241 [Str.ofString "info"] nm_kind_of where
  at_ := by kernel_rfl
  body := by kernel_rfl
  co := by kernel_rfl
  gen := by kernel_rfl
  kind := by kernel_rfl
  code := by kernel_rfl
  gl := by kernel_rfl
  bl := by kernel_rfl
  clos := by kernel_rfl
  nms := by kernel_rfl
  dbg := nd_kind_of
  bind := bind1 fun _ => by kernel_rfl
  nd := by decide
theorem loc_kind_of : (∀ x ∈ ([Str.ofString "info"] : List Str), nm_kind_of.lookup x = some .local) ∧ ∀ x ∈ nm_kind_of, x.2 ≠ .cell := ⟨by decide, by decide⟩
theorem fn_slot_order (P : Params) : FnOk P 248 [Str.ofString "infos"] nm_slot_order where
  at_ := by kernel_rfl
  body := by kernel_rfl
  co := by kernel_rfl
  gen := by kernel_rfl
  kind := by kernel_rfl
  code := by kernel_rfl
  gl := by kernel_rfl
  bl := by kernel_rfl
  clos := by kernel_rfl
  nms := by kernel_rfl
  dbg := nd_slot_order
  bind := bind1 fun _ => by kernel_rfl
  nd := by decide
theorem loc_slot_order : (∀ x ∈ ([Str.ofString "infos"] : List Str), nm_slot_order.lookup x = some .local) ∧ ∀ x ∈ nm_slot_order, x.2 ≠ .cell := ⟨by decide, by decide⟩
theorem fn_classify (P : Params) : FnOk P 255 [Str.ofString "kernel"] nm_classify where
  at_ := by kernel_rfl
  body := by kernel_rfl
  co := by kernel_rfl
  gen := by kernel_rfl
  kind := by kernel_rfl
  code := by kernel_rfl
  gl := by kernel_rfl
  bl := by kernel_rfl
  clos := by kernel_rfl
  nms := by kernel_rfl
  dbg := nd_classify
  bind := bind1 fun _ => by kernel_rfl
  nd := by decide
theorem loc_classify : (∀ x ∈ ([Str.ofString "kernel"] : List Str), nm_classify.lookup x = some .local) ∧ ∀ x ∈ nm_classify, x.2 ≠ .cell := ⟨by decide, by decide⟩
theorem fn_law_coins (P : Params) : FnOk P 262 [Str.ofString "script"] nm_law_coins where
  at_ := by kernel_rfl
  body := by kernel_rfl
  co := by kernel_rfl
  gen := by kernel_rfl
  kind := by kernel_rfl
  code := by kernel_rfl
  gl := by kernel_rfl
  bl := by kernel_rfl
  clos := by kernel_rfl
  nms := by kernel_rfl
  dbg := nd_law_coins
  bind := bind1 fun _ => by kernel_rfl
  nd := by decide
theorem loc_law_coins : (∀ x ∈ ([Str.ofString "script"] : List Str), nm_law_coins.lookup x = some .local) ∧ ∀ x ∈ nm_law_coins, x.2 ≠ .cell := ⟨by decide, by decide⟩
theorem fn_law_coin (P : Params) : FnOk P 269 [Str.ofString "coins", Str.ofString "sides"] nm_law_coin where
  at_ := by kernel_rfl
  body := by kernel_rfl
  co := by kernel_rfl
  gen := by kernel_rfl
  kind := by kernel_rfl
  code := by kernel_rfl
  gl := by kernel_rfl
  bl := by kernel_rfl
  clos := by kernel_rfl
  nms := by kernel_rfl
  dbg := nd_law_coin
  bind := bind2 fun _ _ => by kernel_rfl
  nd := by decide
theorem loc_law_coin : (∀ x ∈ ([Str.ofString "coins", Str.ofString "sides"] : List Str), nm_law_coin.lookup x = some .local) ∧ ∀ x ∈ nm_law_coin, x.2 ≠ .cell := ⟨by decide, by decide⟩
theorem fn_law_thing (P : Params) : FnOk P 276 [Str.ofString "coins", Str.ofString "deep"] nm_law_thing where
  at_ := by kernel_rfl
  body := by kernel_rfl
  co := by kernel_rfl
  gen := by kernel_rfl
  kind := by kernel_rfl
  code := by kernel_rfl
  gl := by kernel_rfl
  bl := by kernel_rfl
  clos := by kernel_rfl
  nms := by kernel_rfl
  dbg := nd_law_thing
  bind := bind2 fun _ _ => by kernel_rfl
  nd := by decide
theorem loc_law_thing : (∀ x ∈ ([Str.ofString "coins", Str.ofString "deep"] : List Str), nm_law_thing.lookup x = some .local) ∧ ∀ x ∈ nm_law_thing, x.2 ≠ .cell := ⟨by decide, by decide⟩
theorem fn_law_things (P : Params) : FnOk P 281 [Str.ofString "coins"] nm_law_things where
  at_ := by kernel_rfl
  body := by kernel_rfl
  co := by kernel_rfl
  gen := by kernel_rfl
  kind := by kernel_rfl
  code := by kernel_rfl
  gl := by kernel_rfl
  bl := by kernel_rfl
  clos := by kernel_rfl
  nms := by kernel_rfl
  dbg := nd_law_things
  bind := bind1 fun _ => by kernel_rfl
  nd := by decide
theorem fn_law_goal (P : Params) : FnOk P 288 [Str.ofString "coins"] nm_law_goal where
  at_ := by kernel_rfl
  body := by kernel_rfl
  co := by kernel_rfl
  gen := by kernel_rfl
  kind := by kernel_rfl
  code := by kernel_rfl
  gl := by kernel_rfl
  bl := by kernel_rfl
  clos := by kernel_rfl
  nms := by kernel_rfl
  dbg := nd_law_goal
  bind := bind1 fun _ => by kernel_rfl
  nd := by decide
theorem loc_law_goal : (∀ x ∈ ([Str.ofString "coins"] : List Str), nm_law_goal.lookup x = some .local) ∧ ∀ x ∈ nm_law_goal, x.2 ≠ .cell := ⟨by decide, by decide⟩
theorem fn_law_say (P : Params) : FnOk P 295 [Str.ofString "plan"] nm_law_say where
  at_ := by kernel_rfl
  body := by kernel_rfl
  co := by kernel_rfl
  gen := by kernel_rfl
  kind := by kernel_rfl
  code := by kernel_rfl
  gl := by kernel_rfl
  bl := by kernel_rfl
  clos := by kernel_rfl
  nms := by kernel_rfl
  dbg := nd_law_say
  bind := bind1 fun _ => by kernel_rfl
  nd := by decide
theorem loc_law_say : (∀ x ∈ ([Str.ofString "plan"] : List Str), nm_law_say.lookup x = some .local) ∧ ∀ x ∈ nm_law_say, x.2 ≠ .cell := ⟨by decide, by decide⟩
theorem fn_law_change (P : Params) : FnOk P 302 [Str.ofString "coins", Str.ofString "plan"] nm_law_change where
  at_ := by kernel_rfl
  body := by kernel_rfl
  co := by kernel_rfl
  gen := by kernel_rfl
  kind := by kernel_rfl
  code := by kernel_rfl
  gl := by kernel_rfl
  bl := by kernel_rfl
  clos := by kernel_rfl
  nms := by kernel_rfl
  dbg := nd_law_change
  bind := bind2 fun _ _ => by kernel_rfl
  nd := by decide
theorem loc_law_change : (∀ x ∈ ([Str.ofString "coins", Str.ofString "plan"] : List Str), nm_law_change.lookup x = some .local) ∧ ∀ x ∈ nm_law_change, x.2 ≠ .cell := ⟨by decide, by decide⟩
theorem fn_law (P : Params) : FnOk P 307 [Str.ofString "script"] nm_law where
  at_ := by kernel_rfl
  body := by kernel_rfl
  co := by kernel_rfl
  gen := by kernel_rfl
  kind := by kernel_rfl
  code := by kernel_rfl
  gl := by kernel_rfl
  bl := by kernel_rfl
  clos := by kernel_rfl
  nms := by kernel_rfl
  dbg := nd_law
  bind := bind1 fun _ => by kernel_rfl
  nd := by decide
end Mine
namespace Mine

/-! fields -/
noncomputable def fget : List (Str × Value) → Str → Option Value
  | [], _ => none
  | (y, v) :: r, x => if y = x then some v else fget r x
noncomputable def fput : List (Str × Value) → Str → Value → List (Str × Value)
  | [], x, v => [(x, v)]
  | (y, u) :: r, x, v => if y = x then (y, v) :: r else (y, u) :: fput r x v

theorem FRep.split {fs : List (Str × Value)} {es : List DictEntry} (h : FRep fs es) : (fs = [] ∧ es = []) ∨ ∃ f fs' e es', fs = f :: fs' ∧ es = e :: es' ∧ (∃ t, e.key = .str f.1 t) ∧ er e.val = f.2 ∧ FRep fs' es' := by
  cases fs with
  | nil => cases es with
    | nil => exact .inl ⟨rfl, rfl⟩
    | cons => exact h.elim
  | cons f fs => cases es with
    | nil => exact h.elim
    | cons e es => exact .inr ⟨f, fs, e, es, rfl, rfl, h.1, h.2.1, h.2.2⟩
theorem FRep.key {e : DictEntry} {a x : Str} (h : ∃ t, e.key = .str a t) : e.key.isStr x = decide (a = x) ∧ e.refKey = false := by
  obtain ⟨t, hk⟩ := h
  exact ⟨by rw [hk]; simp only [Value.isStr]; exact Bool.eq_iff_iff.mpr (by simp), by unfold DictEntry.refKey; rw [hk]⟩
theorem FRep.get {fs : List (Str × Value)} : ∀ {es : List DictEntry}, FRep fs es → ∀ x, ∃ r, getL x es = some r ∧ r.map er = fget fs x := by
  induction fs with
  | nil =>
    intro es h x
    rcases h.split with ⟨_, rfl⟩ | ⟨_, _, _, _, q, _⟩
    · exact ⟨none, rfl, rfl⟩
    · cases q
  | cons f fs ih =>
    intro es h x
    rcases h.split with ⟨q, _⟩ | ⟨f', fs', e, es', q, rfl, hk, hv, r⟩
    · cases q
    · cases q
      obtain ⟨s, h1, h2⟩ := ih r x
      obtain ⟨hs, hr⟩ := FRep.key (x := x) hk
      unfold getL fget
      rw [List.find?_cons, hs]
      by_cases q : f.1 = x
      · simp [q, hv]
      · simp only [q, decide_false, if_false, List.any_cons, hr, Bool.false_or]
        exact ⟨_, h1, h2⟩
theorem FRep.put {hsh : Int} {t : Tok} {v : Value} {x : Str} {fs : List (Str × Value)} : ∀ {es : List DictEntry}, FRep fs es → FRep (fput fs x (er v)) (putL x hsh (.str x t) v es) := by
  induction fs with
  | nil =>
    intro es h
    rcases h.split with ⟨_, rfl⟩ | ⟨_, _, _, _, q, _⟩
    · exact ⟨⟨t, rfl⟩, rfl, trivial⟩
    · cases q
  | cons f fs ih =>
    intro es h
    rcases h.split with ⟨q, _⟩ | ⟨f', fs', e, es', q, rfl, hk, hv, r⟩
    · cases q
    · cases q
      have hs := (FRep.key (x := x) hk).1
      unfold putL fput
      rw [hs]
      by_cases q : f.1 = x
      · simp only [q, decide_true, if_true]; exact ⟨q ▸ hk, rfl, r⟩
      · simp only [q, decide_false, if_false]; exact ⟨hk, hv, ih r⟩
theorem FRep.length {fs : List (Str × Value)} : ∀ {es : List DictEntry}, FRep fs es → es.length = fs.length := by
  induction fs with
  | nil =>
    intro es h
    rcases h.split with ⟨_, rfl⟩ | ⟨_, _, _, _, q, _⟩
    · rfl
    · cases q
  | cons f fs ih =>
    intro es h
    rcases h.split with ⟨q, _⟩ | ⟨f', fs', e, es', q, rfl, hk, hv, r⟩
    · cases q
    · cases q; rw [List.length_cons, List.length_cons, ih r]
theorem fput_length (x : Str) (v : Value) : ∀ fs, (fput fs x v).length ≤ fs.length + 1
  | [] => by simp [fput]
  | f :: fs => by
    unfold fput; split
    · simp
    · have := fput_length x v fs; simp; (first | lia | omega)

theorem handedIn_er {v : Value} (h : handedIn (er v) = true) : handedIn v = true := by cases v <;> exact h

section
variable {D : Wd} {n : Nat} {L : Addr} {S : PH} {m : Loc} {nm : List (Str × NameKind)} {env : Env} {base : OH} {s s' : Shared} {A : Around}
variable {Q : Value → PH → Loc → Prop} {U : Unit → PH → Loc → Prop}

/-- what is known of a class's object in the heap -/
theorem AtC.inst {x C : Addr} {fs : List (Str × Value)} (X : AtC D base S s) (h : S x = some (.inst C fs)) :
    ∃ dx es k, InstAt s.heap x (instObj C dx) C (some (dictOf es k)) ∧ FRep fs es ∧ s.heap.get? dx = some (dictOf es k) := by
  obtain ⟨δ, hd⟩ := X.dicts
  obtain ⟨h1, ⟨es, k, h2, h3⟩, _⟩ := hd x C fs h
  exact ⟨δ x, es, k, ⟨h1, rfl, rfl, h2⟩, h3, h2⟩

/-- what a class must say so that its instances are plain -/
structure ClsOk (P : Params) (C : Addr) : Prop where
  get : plainGet (KK P) C (Str.ofString "x") = true
  dict : hasDictIn (KK P) C = true
  set : findIn (KK P) (.ref C) "__setattr__" = some (some (.builtin "object.__setattr__"))
  over : plainOver (KK P) C = true
  makes : makesIn (KK P) C = true

theorem GetA_inst {attr : Str} {x C : Addr} {fs : List (Str × Value)} {v : Value} (hS : S x = some (.inst C fs)) (co : ClsOk D.w.params C) (hf : findIn (KK D.w.params) (.ref C) attr = some none) (hv : fget fs attr = some v) (hh : handedIn v = true)
    (h : Q v S m) : GetA D n L attr (.ref x) S m Q := fun a' ha base A s o Bs X => by
  have := er_ref ha; subst this
  obtain ⟨dx, es, k, I, F, _⟩ := X.toC.inst hS
  obtain ⟨r, h1, h2⟩ := F.get attr
  rw [hv] at h2
  obtain ⟨u, rfl, hu⟩ := Option.map_eq_some_iff.mp h2
  subst hu
  exact get_value (X.K Bs) I (plainGet_of co.get).1 (findObj_own co.dict hf rfl (by rw [lookIn_dict]; exact h1)) (handedIn_er hh) ⟨S, m, X.tok _, h⟩

theorem Met_inst {attr : Str} {x C f : Addr} {fs : List (Str × Value)} {Q : Value → List Value → PH → Loc → Prop} (hS : S x = some (.inst C fs)) (co : ClsOk D.w.params C) (hf : findIn (KK D.w.params) (.ref C) attr = some (some (.ref f)))
    (ht : isFn (KK D.w.params) (.ref f) = true) (hv : fget fs attr = none) (h : Q (.ref f) [.ref x] S m) : Met D n L attr (.ref x) S m Q := fun a' pl ha base A s o Bs X => by
  have := er_ref ha; subst this
  obtain ⟨dx, es, k, I, F, _⟩ := X.toC.inst hS
  obtain ⟨r, h1, h2⟩ := F.get attr
  rw [hv, Option.map_eq_none_iff] at h2
  subst h2
  exact method_fn (X.K Bs) I (plainGet_of co.get).1 (plainGet_of co.get).2 hf (beq_iff_eq.mp ht) (by show (lookIn attr (dictOf es k)).map _ = _; rw [lookIn_dict, h1]; rfl) ⟨S, m, X, h⟩

/-- setting a field, at the level of the heap -/
theorem AtC.setField {attr : Str} {x C : Addr} {fs : List (Str × Value)} {v : Value} {tk : Tok} {R : Result → Shared → Prop} (X : AtC D base S s) (Bs : Base D base) (hS : S x = some (.inst C fs)) (co : ClsOk D.w.params C) (hf : findIn (KK D.w.params) (.ref C) attr = some none)
    (hz : fs.length < 900) (h : ∀ s', AtC D base (S.set x (.inst C (fput fs attr (er v)))) s' → (∃ dx, base dx = none ∧ S dx = none ∧ (∀ b, b ≠ dx → s'.heap.get? b = s.heap.get? b)) → s'.gens = s.gens → s'.os = s.os → R (.ok (.ret .none)) s') :
    codeAny (model pw D.w) A (.call (.builtin "object.__setattr__") ⟨[.ref x, .str attr tk, v], []⟩) R s := by
  have K := D.KX.keeps (fun b o e => X.keep _ _ (Bs b o e))
  obtain ⟨δ, hd⟩ := X.dicts
  obtain ⟨hx, ⟨es, k, hdx, F⟩, db, dS, _⟩ := hd x C fs hS
  obtain ⟨r, h1, h2⟩ := F.get attr
  have I : InstAt s.heap x (instObj C (δ x)) C (some (dictOf es k)) := ⟨hx, rfl, rfl, hdx⟩
  refine osa_open K I co.over (by unfold takerIn; rw [hf]; rfl) fun b => ?_
  obtain ⟨cd, hc, hd'⟩ := any_some co.dict
  refine wpAny_bind (wpAny_pure (wpAny_bind (wpAny_bind (wpAny_loadPart hx (wpAny_bind ((looks_clsIn K hc).here ?_))))))
  rw [hd']
  refine wpAny_pure (a := some (δ x)) (wpAny_bind (wpAny_pure (wpAny_bind ?_)))
  unfold nsSet
  refine wpAny_bind (wpAny_bind (wpAny_askSetting (wpAny_pure (wpAny_bind (wpAny_mkText (wpAny_bind (wpAny_loadPart hdx ?_)))))))
  dsimp only
  have c : (!es.toArray.any (·.key.isStr attr) && es.toArray.any (·.refKey)) = false := by
    rw [← Array.any_toList, ← Array.any_toList, List.toList_toArray]
    unfold getL at h1
    split at h1
    · rename_i en he
      rw [List.any_eq_true.mpr ⟨en, List.mem_of_find?_eq_some he, List.find?_some he⟩]; rfl
    · split at h1
      · cases h1
      · rename_i z; rw [Bool.not_eq_true] at z; rw [z, Bool.and_false]
  rw [aRefKeyMayBeTheName_at, c]
  have hfr : (Obj.putName attr (PyData.keyHash D.w.params attr) (.str attr s.toks) v (dictOf es k)).isFreed = false := by rw [putName_dict]; rfl
  refine wpAny_updatePart hdx ?_
  have g := Heap.get?_update_self (Obj.putName attr (PyData.keyHash D.w.params attr) (.str attr s.toks) v) hdx hfr
  rw [putName_dict] at g
  have hlen : (putL attr (PyData.keyHash D.w.params attr) (.str attr s.toks) v es).length ≤ 1000 := by
    have F' := FRep.put (hsh := PyData.keyHash D.w.params attr) (t := s.toks) (v := v) (x := attr) F
    have := F'.length; have := fput_length attr (er v) fs; (first | lia | omega)
  refine wpAny_bind (wpAny_lookBehind g (pastItsLine_dict (by rw [List.size_toArray, sizeLine_eq]; (first | lia | omega))) ?_)
  exact wpAny_pure (h _ (X.putInst hS hx (fun b hb => Heap.get?_update_ne _ _ _ _ hb) rfl rfl g F.put) ⟨δ x, db, dS, fun b hb => Heap.get?_update_ne _ _ _ _ hb⟩ rfl rfl)

theorem At.split (X : At D base L S m s) : ∃ oL, base L = none ∧ AtC D (base.set L oL) S s ∧ ONs oL m := let ⟨a, oL, b, c⟩ := X; ⟨oL, a, b, c⟩
theorem Base.set {oL : Obj} (Bs : Base D base) (hL : base L = none) : Base D (base.set L oL) := fun a ob e => by
  have := Bs a ob e
  rw [OH.set_ne (by rintro rfl; rw [hL] at this; cases this)]; exact this

theorem SetA_inst {attr : Str} {x C : Addr} {fs : List (Str × Value)} {v : Value} (hS : S x = some (.inst C fs)) (co : ClsOk D.w.params C) (hf : findIn (KK D.w.params) (.ref C) attr = some none) (hz : fs.length < 900)
    (h : U () (S.set x (.inst C (fput fs attr v))) m) : SetA D n L attr (.ref x) v S m U := fun a' v' ha hv base A s o Bs X => by
  have := er_ref ha; subst this
  subst hv
  obtain ⟨dx, es, k, I, F, _⟩ := X.toC.inst hS
  obtain ⟨oL, hL, C', hO⟩ := X.split
  refine set_plain (X.K Bs) I co.set ?_
  refine AtC.setField (s := { s with toks := s.toks + 1 }) (C'.same rfl rfl rfl) (Bs.set hL) hS co hf hz fun s' X' _ _ _ => ⟨_, m, ⟨hL, oL, X', hO⟩, h⟩

theorem SetA_inst' {attr : Str} {x C : Addr} {fs fs' : List (Str × Value)} {v : Value} (hS : S x = some (.inst C fs)) (co : ClsOk D.w.params C) (hf : findIn (KK D.w.params) (.ref C) attr = some none) (hz : fs.length < 900)
    (hp : fput fs attr v = fs') (h : U () (S.set x (.inst C fs')) m) : SetA D n L attr (.ref x) v S m U := by
  subst hp; exact SetA_inst hS co hf hz h
/-! making an object of a class -/
theorem CallC_make {C fI : Addr} {args : List Value} {Q : Value → PH → Prop} (co : ClsOk D.w.params C) (hi : findIn (KK D.w.params) (.ref C) "__init__" = some (some (.ref fI))) (hf : typeIn (KK D.w.params) (.ref fI) = some (.type "function"))
    (h : ∀ x, S x = none → CallC D n (.ref fI) (.ref x :: args) (S.set x (.inst C [])) fun v S' => v = .none ∧ Q (.ref x) S') : CallC D (n + 1) (.ref C) args S Q := fun base A s args' o Bs X hv => by
  have K := D.KX.keeps (fun b o e => X.keep _ _ (Bs b o e))
  obtain ⟨hh, g, d, t, os⟩ := s
  refine make_core (makes_of K co.makes) (looks_findIn K hi) (fun self => bind_fn K self hf) (.inl rfl) ?_
  have frx : hh.get? (hh.objs.size + 1) = none := by
    cases q : hh.get? (hh.objs.size + 1) with
    | none => rfl
    | some o => exact absurd (Heap.lt_size q) (Nat.not_lt.mpr (Nat.le_succ _))
  have frd : hh.get? hh.objs.size = none := by
    cases q : hh.get? hh.objs.size with
    | none => rfl
    | some o => exact absurd (Heap.lt_size q) (Nat.lt_irrefl _)
  have hx : ((hh.push emptyDict).push (instObj C hh.objs.size)).get? (hh.objs.size + 1) = some (instObj C hh.objs.size) := by
    have := Heap.get?_push_size (h := hh.push emptyDict) (o := instObj C hh.objs.size) rfl
    rwa [Heap.size_push] at this
  have X' : AtC D base (S.set (hh.objs.size + 1) (.inst C [])) ⟨(hh.push emptyDict).push (instObj C hh.objs.size), g, d, t, os⟩ :=
    X.addInst (s' := ⟨(hh.push emptyDict).push (instObj C hh.objs.size), g, d, t, os⟩) (dx := hh.objs.size) (fun b o e => Heap.get?_push_of_some _ (Heap.get?_push_of_some _ e)) rfl rfl frx frd (Nat.succ_ne_self _) hx
      (Heap.get?_push_of_some _ (Heap.get?_push_size _ rfl))
  have o' : Ok n (A.under (.builtin "type.__call__" ⟨.ref C :: args', []⟩)) := by
    have hu : (A.under (.builtin "type.__call__" ⟨.ref C :: args', []⟩)).units = A.units + 1 := rfl
    exact ⟨o.1, by have := o.2.1; rw [depth_under_make]; (first | lia | omega), by have := o.2.2; rw [hu]; (first | lia | omega)⟩
  refine codeAny_mono (h _ (X.fresh frx).1 base _ _ (.ref (hh.objs.size + 1) :: args') o' Bs X' (by simp [hv, er])) fun r s' z => ?_
  obtain ⟨v, S', e, C', q1, q2⟩ := z
  subst e
  exact ⟨er_none q1, _, S', rfl, C', q2⟩
end
end Mine
set_option maxRecDepth 100000
namespace Mine

theorem rv_init : Slot "reversed" "__init__" "object.__init__" :=
  .of (owner := "object") (n := "__init__") (by rw [typeLookup_type, builtinLookup_eq_fast]; kernel_rfl) (by decide +kernel) (by decide +kernel) (by decide +kernel)
    (by first | exact .inl (by decide +kernel) | exact .inr (by decide +kernel)) (by rw [isSubtype_type]; kernel_rfl)
theorem rv_next : Slot "reversed" "__next__" "reversed.__next__" :=
  .of (owner := "reversed") (n := "__next__") (by rw [typeLookup_type, builtinLookup_eq_fast]; kernel_rfl) (by decide +kernel) (by decide +kernel) (by decide +kernel)
    (by first | exact .inl (by decide +kernel) | exact .inr (by decide +kernel)) (by rw [isSubtype_type]; kernel_rfl)
theorem rv_iter : Slot "reversed" "__iter__" "reversed.__iter__" :=
  .of (owner := "reversed") (n := "__iter__") (by rw [typeLookup_type, builtinLookup_eq_fast]; kernel_rfl) (by decide +kernel) (by decide +kernel) (by decide +kernel)
    (by first | exact .inl (by decide +kernel) | exact .inr (by decide +kernel)) (by rw [isSubtype_type]; kernel_rfl)
theorem rv_hint : Slot "reversed" "__length_hint__" "reversed.__length_hint__" :=
  .of (owner := "reversed") (n := "__length_hint__") (by rw [typeLookup_type, builtinLookup_eq_fast]; kernel_rfl) (by decide +kernel) (by decide +kernel) (by decide +kernel)
    (by first | exact .inl (by decide +kernel) | exact .inr (by decide +kernel)) (by rw [isSubtype_type]; kernel_rfl)
theorem rv_entry_next : entryFor table "reversed.__next__" = some Builtin.«reversed.__next__» := entryFor_of_tree (by kernel_rfl)
theorem rv_entry_hint : entryFor table "reversed.__length_hint__" = some Builtin.«reversed.__length_hint__» := entryFor_of_tree (by kernel_rfl)
theorem rv_entry_iter : entryFor table "reversed.__iter__" = some Builtin.«dict_keyiterator.__iter__» :=
  entryFor_alias (id' := "dict_keyiterator.__iter__") (by kernel_rfl) (by first | rfl | decide +kernel | (unfold String.splitOn; simp +decide [String.splitOnAux])) (by decide +kernel) (by kernel_rfl)
theorem rv_sig_next (a : Value) : argsOk "reversed.__next__" ⟨[a], []⟩ := by unfold argsOk; kernel_rfl
theorem rv_sig_iter (a : Value) : argsOk "reversed.__iter__" ⟨[a], []⟩ := by unfold argsOk; kernel_rfl
theorem rv_sig_hint (a : Value) : argsOk "reversed.__length_hint__" ⟨[a], []⟩ := by unfold argsOk; kernel_rfl
theorem rv_called : TypeCalled "reversed" "reversed.__new__" "object.__init__" :=
  ⟨by decide +kernel, by decide +kernel, ⟨_, _, F.mro_reversed⟩, F.made_reversed, by decide +kernel, F.sub_reversed_self, rv_init⟩
theorem rv_tup_no : typeLookup (.type "tuple") "__reversed__" = pure none := by rw [typeLookup_type, builtinLookup_eq_fast]; kernel_rfl
theorem rv_tup_dict : isSubtype (.type "tuple") (.type "dict") = pure false := by rw [isSubtype_type]; kernel_rfl
theorem rv_no_len : typeLookup (.type "reversed") "__len__" = pure none := by rw [typeLookup_type, builtinLookup_eq_fast]; kernel_rfl
end Mine
set_option maxRecDepth 100000
namespace Mine

noncomputable def rvObj (t : Addr) (i : Int) : Obj := { cls := .type "reversed", data := .fields #[.ref t, rawInt i] }
section
variable {prog : Program} {w : World} {A : Around} {E : Value → Shared → Prop} {s : Shared}

theorem code_rv_tup {t : Addr} {items : Array Value} {Q₁ : Value → Shared → Prop} (ht : IsTup s.heap t items) (hfit : (items.size : Int) < 2 ^ 63)
    (h : Q₁ (.ref s.heap.objs.size) { s with heap := s.heap.push (rvObj t ((items.size : Int) - 1)), toks := s.toks + 2 }) :
    codeAny (model prog w) A (.call (.builtin "reversed.__new__") ⟨[.type "reversed", .ref t], []⟩) (wants Q₁ E) s := by
  refine codeAny_of_tree ?_
  show wpAny _ A.in1 (do checkBuiltinCall "reversed.__new__" ⟨[.type "reversed", .ref t], []⟩; again (.builtin "reversed.__new__" ⟨[.type "reversed", .ref t], []⟩)) _ _ s
  refine wpAny_bind (wpAny_of_eq (F.newCall_reversed_1 _) (wpAny_pure ⟨plainId_quiet F.plain_reversed_new _, codeAny_builtin F.entry_reversed_new ?_⟩))
  rw [Around.under_plainId F.plain_reversed_new _]
  unfold Builtin.«reversed.__new__»
  refine wpAny_bind (wpAny_of_eq (newClass_reversed _) ?_)
  try dsimp only
  refine wpAny_bind (wpAny_of_eq (a := ()) (by first | rfl | kernel_rfl) ?_)
  refine wpAny_bind (wpAny_of_eq (a := ()) (by first | rfl | kernel_rfl) ?_)
  try dsimp only
  refine wpAny_bind (wpAny_specialOf ht.typeIs rv_tup_no ?_)
  try dsimp only
  refine wpAny_bind ?_
  refine wpAny_bind (m := isInstance (Value.ref t) (Value.type "dict")) (wpAny_isInstance ht.typeIs rv_tup_dict ?_)
  refine wpAny_bind (m := specialOf (Value.ref t) "__getitem__") (wpAny_specialOf ht.typeIs slot_tuple_getitem.lookup ?_)
  dsimp only
  rw [if_pos (by decide +kernel)]
  refine wpAny_pure ?_
  refine wpAny_bind (len_tuple ht hfit ?_)
  refine wpAny_bind (wpAny_pure ?_)
  dsimp only
  refine wpAny_bind ?_
  show wpAny _ _ (newObj (.type "reversed") (.fields #[.ref t, rawInt ((items.size : Int) - 1)])) _ _ _
  refine wpAny_newObj_type ?_
  exact wpAny_pure h

theorem call_rv_tup {t : Addr} {items : Array Value} {Q : Value → Shared → Prop} (ht : IsTup s.heap t items) (hfit : (items.size : Int) < 2 ^ 63)
    (h : Q (.ref s.heap.objs.size) { s with heap := s.heap.push (rvObj t ((items.size : Int) - 1)), toks := s.toks + 2 }) : wpAny (model prog w) A (call (.type "reversed") [.ref t]) Q E s := by
  refine callType_codes (Q₁ := fun obj s₁ => obj = .ref s.heap.objs.size ∧ s₁ = { s with heap := s.heap.push (rvObj t ((items.size : Int) - 1)), toks := s.toks + 2 }) rv_called (F.typeCall_reversed_1 _) F.entry_object_init (code_rv_tup ht hfit ⟨rfl, rfl⟩) ?_
  rintro obj s₁ ⟨rfl, rfl⟩
  have hT : Shared.TypeIs { s with heap := s.heap.push (rvObj t ((items.size : Int) - 1)), toks := s.toks + 2 } (.ref s.heap.objs.size) "reversed" := ⟨_, Heap.get?_push_size _ rfl, rfl⟩
  refine ⟨hT, F.args_object_init_2 _ _, ?_⟩
  have g := object_init_meets (self := .ref s.heap.objs.size) (rest := [.ref t]) rv_init.lookup F.made_reversed (by decide)
  exact g prog w A.in1 (wants (fun r s₂ => r = .none ∧ Q (.ref s.heap.objs.size) s₂) E) _ ⟨hT, rfl, h⟩

theorem rv_pyIter {it : Addr} {o : Obj} {Q : Value → Shared → Prop} (hit : s.heap.get? it = some o) (hc : o.cls = .type "reversed") (h : Q (.ref it) s) : wpAny (model prog w) A (pyIter (.ref it)) Q E s := by
  have hT : s.TypeIs (.ref it) "reversed" := ⟨_, hit, hc⟩
  refine wpAny_pyIter_slot hT rv_iter (wpAny_call_entry rv_iter hT rv_entry_iter ?_ (rv_sig_iter _))
  show wpAny _ _ (ret (.ref it)) _ _ s
  exact wpAny_pure ⟨_, rfl, "reversed", _, hT, rv_next.lookup, h⟩

theorem rv_item {it t : Addr} {i : Nat} {items : Array Value} {x : Value} {Q : Option Value → Shared → Prop} (hit : s.heap.get? it = some (rvObj t (i : Int))) (ht : IsTup s.heap t items) (hfit : (items.size : Int) < 2 ^ 63) (hx : items[i]? = some x)
    (hQ : ∀ h', h'.get? it = some (rvObj t ((i : Int) - 1)) → Heap.SameBut it s.heap h' → Q (some x) { s with heap := h', toks := s.toks + 1 }) : wpAny (model prog w) A (pyNext (.ref it)) Q E s := by
  have hT : s.TypeIs (.ref it) "reversed" := ⟨_, hit, rfl⟩
  have hi : i < items.size := (Array.getElem?_eq_some_iff.mp hx).1
  unfold pyNext
  refine wpAny_bind (wpAny_attempt (wpAny_callSpecial?_slot (name := Str.ofString "__next__") hT rv_next
    (wpAny_call_entry rv_next hT rv_entry_next ?_ (rv_sig_next _))))
  unfold Builtin.«reversed.__next__»
  refine wpAny_bind (wpAny_of_eq (a := (Value.ref it, [])) rfl ?_)
  try dsimp only
  refine wpAny_bind (wpAny_field hit rfl (x := .ref t) rfl ?_)
  refine wpAny_bind (wpAny_field hit rfl (x := rawInt (i : Int)) rfl ?_)
  show wpAny _ _ (if (i : Int) < 0 then _ else _) _ _ s
  rw [if_neg (by (first | lia | omega))]
  refine wpAny_bind (m := specialOf (Value.ref t) "__getitem__") (wpAny_specialOf ht.typeIs slot_tuple_getitem.lookup ?_)
  rw [if_neg (by decide)]
  refine wpAny_bind (m := ((mkInt (i : Int) >>= fun k => getItem (.ref t) k) : Sem Value).attempt) (wpAny_attempt ?_)
  refine wpAny_bind (wpAny_mkInt ?_)
  have hj : seqIndex? (i : Int) items.size = some i := by
    have e1 : ¬ (i : Int) < 0 := by (first | lia | omega)
    have e2 : (i : Int) < items.size := by (first | lia | omega)
    have e3 : (0 : Int) ≤ i := by (first | lia | omega)
    simp only [seqIndex?, e1, if_false, e2, e3, decide_true, Bool.and_self, if_true, Int.toNat_natCast]
  refine getItem_tuple (s := { s with toks := s.toks + 1 }) ht (by (first | lia | omega)) (by (first | lia | omega)) hj hx ?_
  refine wpAny_bind (m := field (Value.ref it) 1) (wpAny_field hit rfl (x := rawInt (i : Int)) rfl ?_)
  refine wpAny_bind (m := setField (Value.ref it) 1 (rawInt ((i : Int) - 1))) (wpAny_setField hit rfl (by simp) ?_)
  refine wpAny_pure ⟨x, rfl, wpAny_pure (hQ _ ?_ (Heap.SameBut.update ..))⟩
  exact Heap.get?_update_self _ hit rfl

theorem rv_end {it t : Addr} {Q : Option Value → Shared → Prop} (hh : A.handled = none) (hit : s.heap.get? it = some (rvObj t (-1)))
    (hQ : ∀ h', Heap.ExtBut it s.heap h' → Q none { s with heap := h' }) : wpAny (model prog w) A (pyNext (.ref it)) Q E s := by
  have hT : s.TypeIs (.ref it) "reversed" := ⟨_, hit, rfl⟩
  unfold pyNext
  refine wpAny_bind (wpAny_attempt (wpAny_callSpecial?_slot (name := Str.ofString "__next__") hT rv_next
    (wpAny_call_entry rv_next hT rv_entry_next ?_ (rv_sig_next _))))
  unfold Builtin.«reversed.__next__»
  refine wpAny_bind (wpAny_of_eq (a := (Value.ref it, [])) rfl ?_)
  try dsimp only
  refine wpAny_bind (wpAny_field hit rfl (x := .ref t) rfl ?_)
  refine wpAny_bind (wpAny_field hit rfl (x := rawInt (-1)) rfl ?_)
  show wpAny _ _ (if (-1 : Int) < 0 then _ else _) _ _ s
  rw [if_pos (by decide)]
  refine wpAny_bind (wpAny_rule ?_)
  refine wpAny_bind ?_
  refine wpAny_bind (m := setField (Value.ref it) 1 (rawInt (-1))) (wpAny_setField hit rfl (by simp) ?_)
  have hit2 := Heap.get?_update_self (Obj.mapFields (·.setIfInBounds 1 (rawInt (-1)))) hit rfl
  refine wpAny_setField hit2 rfl (by simp) ?_
  have ext : Heap.ExtBut it s.heap ((s.heap.update it (Obj.mapFields (·.setIfInBounds 1 (rawInt (-1))))).update it (Obj.mapFields (·.setIfInBounds 0 Value.none))) := fun b o hb e =>
    (Heap.get?_update_ne _ _ _ _ hb).trans ((Heap.get?_update_ne _ _ _ _ hb).trans e)
  refine wpAny_bind ?_
  show wpAny _ _ (newExc (.type "StopIteration") [] >>= _) _ _ _
  refine wpAny_bind ?_
  simp only [newExc, newTuple]
  refine wpAny_bind (wpAny_newObj_type ?_ (by size_fits))
  refine wpAny_bind (m := firstArgMember _ _) (wpAny_of_eq (a := Value.none) (by first | rfl | (simp only [firstArgMember]; rfl)) ?_)
  refine wpAny_newObj_type ?_ (by size_fits)
  simp only [raiseNew]
  refine wpAny_bind (wpAny_handled ?_)
  first | rw [show A.in1.handled = none from hh] | rw [hh]
  refine wpAny_bind (wpAny_pure (wpAny_throw ?_))
  refine wpAny_bind (wpAny_isInstance (T := "StopIteration") (b := true) ⟨_, Heap.get?_push_size _ rfl, rfl⟩ isSubtype_stop ?_)
  exact wpAny_pure (hQ _ ((ext.push _).push _))
end

section
variable {D : Wd} {n : Nat} {L : Addr} {S : PH} {m : Loc} {base : OH} {s : Shared}
variable {Q : Value → PH → Loc → Prop}

noncomputable def vIter (t : Addr) (N : Nat) (i : Nat) (o : Obj) : Prop := o = rvObj t ((N : Int) - 1 - i)
theorem iterRev (t : Addr) (vs : List Value) (hN : vs.length ≤ 1000) : IterK D (fun S => S t = some (.tup vs)) vs.length (fun i => (vs.reverse[i]?).getD .none) (vIter t vs.length) where
  item := fun {i S I oI A s Q E} hlt hh hu hr hI hl hg hst hQ => by
    obtain ⟨o, ho, us, k, rfl, hu'⟩ := hr t _ hl
    have hlen : us.size = vs.length := by rw [← hu']; simp
    have hx : us[vs.length - 1 - i]? = some (us[vs.length - 1 - i]'(by (first | lia | omega))) := Array.getElem?_eq_getElem (by (first | lia | omega))
    unfold vIter at hst
    have e : (vs.length : Int) - 1 - i = ((vs.length - 1 - i : Nat) : Int) := by (first | lia | omega)
    rw [e] at hst
    subst hst
    refine rv_item (i := vs.length - 1 - i) (t := t) hg ⟨_, ho, rfl, k, rfl⟩ (by (first | lia | omega)) hx fun h' hit hs => ?_
    refine hQ _ h' _ _ ?_ hit ?_ fun b o hb e => (hs.2 b hb).trans e
    · have h1 : (us.toList.map er)[vs.length - 1 - i]? = some (er us[vs.length - 1 - i]) := by rw [List.getElem?_map, Array.getElem?_toList, hx]; rfl
      rw [hu'] at h1
      rw [List.getElem?_reverse (by (first | lia | omega)), h1]; rfl
    · show _ = _
      congr 1
      (first | lia | omega)
  done := fun {S I oI A s Q E} hh hu hr hI hl hg hst hQ => by
    unfold vIter at hst
    have e : (vs.length : Int) - 1 - vs.length = -1 := by (first | lia | omega)
    rw [e] at hst
    subst hst
    exact rv_end (t := t) hh hg fun h' he => hQ h' s.toks fun b o hb e => he b o hb e
  go := fun {elts k pos i I oI v A s Q E} hg hst hQ => by
    cases v with
    | ref T =>
      subst hst
      unfold letOwnedTupleGo
      refine wpAny_bind (wpAny_load hg ?_)
      exact wpAny_of_eq (a := ()) rfl hQ
    | _ => exact wpAny_of_eq (a := ()) rfl hQ
theorem PyI_rev {r t : Addr} {N : Nat} {o : Obj} {K : Addr → PH → Loc → Prop} (hl : S r = some (.raw o)) (ho : vIter t N 0 o) (h : K r S m) : PyI D n L (.ref r) S m K := fun x' hx base A s ok Bs X => by
  have := er_ref hx; subst this
  obtain ⟨ob, hob, e⟩ := X.here hl
  have e : ob = o := e
  subst e
  exact rv_pyIter hob (by rw [ho]; rfl) ⟨S, m, X, _, rfl, h⟩
theorem CallW_reversed_tup {t : Addr} {vs : List Value} (ht : S t = some (.tup vs)) (hz : vs.length ≤ 1000) (h : ∀ r o, S r = none → vIter t vs.length 0 o → Q (.ref r) (S.set r (.raw o)) m) : CallW D n L (.type "reversed") [.ref t] S m Q := fun vs' hv base A s ok Bs X => by
  obtain ⟨a', rfl, ha⟩ := map1 hv
  have := er_ref ha; subst this
  obtain ⟨o, hob, us, k, rfl, hu⟩ := X.here ht
  have hlen : us.size = vs.length := by rw [← hu]; simp
  refine call_rv_tup ⟨_, hob, rfl, k, rfl⟩ (by (first | lia | omega)) ⟨_, m, X.add (a := s.heap.objs.size) (x := .raw _) (fun b o e => Heap.get?_push_of_some _ e) rfl rfl (fresh_size s) (Heap.get?_push_size _ rfl) rfl rfl, h _ _ (X.fresh (fresh_size s)) ?_⟩
  show _ = _
  rw [hlen]; simp
end
end Mine
set_option maxRecDepth 100000
namespace Mine

section
variable {D : Wd} {n : Nat} {L : Addr} {S : PH} {m : Loc} {base : OH} {s : Shared} {A : Around} {R : Result → Shared → Prop}

noncomputable def firsts (val : Nat → Value) (i : Nat) : List Value := (List.range i).map val
theorem firsts_succ (val : Nat → Value) (i : Nat) : firsts val (i + 1) = firsts val i ++ [val i] := by simp [firsts, List.range_succ]
@[simp] theorem firsts_zero (val : Nat → Value) : firsts val 0 = [] := rfl
@[simp] theorem firsts_length (val : Nat → Value) (i : Nat) : (firsts val i).length = i := by simp [firsts]

theorem set_set (S : PH) (l : Addr) (x y : AObj) : (S.set l x).set l y = S.set l y := by
  funext b; unfold PH.set; split <;> rfl

theorem extLoop {dep : PH → Prop} {N : Nat} {val : Nat → Value} {st : Nat → Obj → Prop} (K : IterK D dep N val st) {l I : Addr} {vs : List Value} {res : Value} (hb : base I = none) (hdep : ∀ ws, dep (S.set l (.list ws))) (hz : vs.length + N ≤ 10000) (hh : A.handled = none) (hu0 : A.units + 20 < cLine) :
    ∀ (k i : Nat) (s : Shared) (oI : Obj), N - i = k → i ≤ N → At D (base.set I oI) L (S.set l (.list (vs ++ firsts val i))) m s → st i oI → s.heap.get? I = some oI →
      (∀ s', At D base L (S.set l (.list (vs ++ firsts val N))) m s' → R (.ok (.ret res)) s') →
      codeAny (model pw D.w) A (.builtin "list.extend.loop" ⟨[.ref l, .ref I, res], []⟩) R s := by
  intro k
  have hun : A.in1.units + 10 < cLine := by show A.units + 1 + 10 < _; (first | lia | omega)
  induction k with
  | zero =>
    intro i s oI hk hi X hst hI hR
    have hin : i = N := by (first | lia | omega)
    subst hin
    refine codeAny_builtin F.entry_extend_loop ?_
    rw [Around.under_plainId F.plain_extend_loop _]
    show wpAny _ A.in1 (pyNext (.ref I) >>= _) _ _ s
    have hSI : (S.set l (.list (vs ++ firsts val i))) I = none := by
      cases q : (S.set l (.list (vs ++ firsts val i))) I with
      | none => rfl
      | some x => have := X.toC.new I x q; rw [OH.set_same] at this; cases this
    refine wpAny_bind (K.done hh hun (fun a x e => X.here e) hSI (hdep _) hI hst fun h' tk hk => ?_)
    exact wpAny_pure (hR _ (At.thaw hb X hk rfl rfl))
  | succ k ih =>
    intro i s oI hk hi X hst hI hR
    have hlt : i < N := by (first | lia | omega)
    refine codeAny_builtin F.entry_extend_loop ?_
    rw [Around.under_plainId F.plain_extend_loop _]
    show wpAny _ A.in1 (pyNext (.ref I) >>= _) _ _ s
    have hSI : (S.set l (.list (vs ++ firsts val i))) I = none := by
      cases q : (S.set l (.list (vs ++ firsts val i))) I with
      | none => rfl
      | some x => have := X.toC.new I x q; rw [OH.set_same] at this; cases this
    refine wpAny_bind (K.item hlt hh hun (fun a x e => X.here e) hSI (hdep _) hI hst fun x h' tk oI' hx hI' hst' hk' => ?_)
    have X' : At D (base.set I oI') L (S.set l (.list (vs ++ firsts val i))) m { s with heap := h', toks := tk } := X.rebase hk' hI' rfl rfl
    obtain ⟨o, ho, us, e, rfl, hu⟩ := X'.here (PH.set_same _ _ _)
    have hlen : us.size = vs.length + i := by have := congrArg List.length hu; simpa using this
    show wpAny _ A.in1 (updateSeq l (·.push x) >>= _) _ _ _
    refine wpAny_bind ?_
    refine wpAny_updateSeq ho rfl ?_ (by rw [hlen, sizeLine_eq]; (first | lia | omega)) (by show (us.push x).size ≤ sizeLine + 1; rw [Array.size_push, hlen, sizeLine_eq]; (first | lia | omega))
    have X'' := X'.listStep (PH.set_same _ _ _) ho (·.push x) (ws := vs ++ firsts val (i + 1)) (by rw [Array.toList_push, List.map_append, hu, firsts_succ, ← List.append_assoc]; simp [hx])
    rw [set_set] at X''
    refine wpAny_pure ⟨plainId_quiet F.plain_extend_loop _, ih (i + 1) _ oI' (by (first | lia | omega)) hlt X'' hst' ?_ hR⟩
    have hne : I ≠ l := by rintro rfl; rw [PH.set_same] at hSI; cases hSI
    exact (Heap.get?_update_ne _ _ _ _ hne).trans hI'

/-- what an object that is neither list nor tuple must say to be walked by extend -/
theorem ext_with {dep : PH → Prop} {N : Nat} {val : Nat → Value} {st : Nat → Obj → Prop} (K : IterK D dep N val st) {l I x : Addr} {T : String} {S₁ : PH} {oI : Obj} {vs : List Value} {res : Value} (hlS : S₁ l = some (.list vs)) (hIS : S₁ I = some (.raw oI)) (hE : S₁.erase I = S.set l (.list vs)) (hst : st 0 oI)
    (hdep : ∀ ws, dep (S.set l (.list ws))) (hz : vs.length + N ≤ 10000) (hh : A.handled = none) (hu0 : A.units + 20 < cLine)
    (X : At D base L S₁ m s) (hT : s.TypeIs (.ref x) T) (hlx : l ≠ x) (h1 : (Value.type T == Value.type "list") = false) (h2 : (Value.type T == Value.type "tuple") = false)
    (hit : ∀ (E : Value → Shared → Prop) (Q : Value → Shared → Prop), Q (.ref I) s → wpAny (model pw D.w) A.in1 (pyIter (.ref x)) Q E s)
    (hhint : ∀ (E : Value → Shared → Prop) (Q : Bool → Shared → Prop), (∀ b tk, Q b { s with toks := tk }) → wpAny (model pw D.w) A.in1 (Builtin.List.listLengthHint (.ref x)) Q E s)
    (hR : ∀ s', At D base L (S.set l (.list (vs ++ firsts val N))) m s' → R (.ok (.ret res)) s') :
    wpAny (model pw D.w) A.in1 (Builtin.List.listExtendWith (.ref l) (.ref x) res)
      (fun fin s' => match fin with | .done f => R (.ok f) s' | .again c' => c'.quiet = true ∧ codeAny (model pw D.w) A c' R s') (fun e s' => R (.error e) s') s := by
  unfold Builtin.List.listExtendWith
  refine wpAny_bind (wpAny_typeOf (T := T) hT ?_)
  have h3 : Builtin.List.listSameRef (.ref l) (.ref x) = false := by simp [Builtin.List.listSameRef, hlx]
  simp only [h3, h1, h2, Bool.or_false, Bool.false_eq_true, if_false]
  refine wpAny_bind (hit _ _ ?_)
  refine wpAny_bind (wpAny_holding (hhint _ _ fun b tk => ?_))
  obtain ⟨hb, hne, hg, X₃⟩ := X.freeze hIS
  rw [hE] at X₃
  have e0 : vs ++ firsts val 0 = vs := by simp
  rw [← e0] at X₃
  refine wpAny_ite_split (fun _ => ?_) (fun _ => wpAny_pure ⟨plainId_quiet F.plain_extend_loop _, extLoop K hb hdep hz hh hu0 N 0 _ oI rfl (Nat.zero_le _) (X₃.tok tk) hst hg hR⟩)
  obtain ⟨o, ho, us, e, rfl, hu⟩ := X₃.here (PH.set_same _ _ _)
  have hlen : us.size = vs.length := by have := congrArg List.length hu; simpa using this
  refine wpAny_bind (wpAny_rule ?_)
  refine wpAny_bind ?_
  show wpAny _ _ (updateSeq l (·.push .none) >>= fun _ => updateSeq l (·.pop)) _ _ _
  refine wpAny_bind (wpAny_updateSeq ho rfl ?_ (by rw [hlen, sizeLine_eq]; (first | lia | omega)) (by show (us.push Value.none).size ≤ sizeLine + 1; rw [Array.size_push, hlen, sizeLine_eq]; (first | lia | omega)))
  have hS₂ := Heap.get?_update_self (Obj.mapSeq (·.push Value.none)) ho rfl
  have Y := (X₃.tok tk).listStep (PH.set_same _ _ _) ho (·.push Value.none) (ws := vs ++ [.none]) (by rw [Array.toList_push, List.map_append, hu]; simp [er])
  refine wpAny_updateSeq hS₂ rfl ?_ (by show (us.push Value.none).size ≤ sizeLine; rw [Array.size_push, hlen, sizeLine_eq]; (first | lia | omega)) (by show ((us.push Value.none).pop).size ≤ sizeLine + 1; rw [Array.pop_push, hlen, sizeLine_eq]; (first | lia | omega))
  have Y' := Y.listStep (PH.set_same _ _ _) hS₂ (·.pop) (ws := vs ++ firsts val 0) (by
    show ((us.push Value.none).pop).toList.map er = _
    rw [Array.pop_push, hu])
  rw [set_set, set_set] at Y'
  refine wpAny_pure ⟨plainId_quiet F.plain_extend_loop _, extLoop K hb hdep hz hh hu0 N 0 _ oI rfl (Nat.zero_le _) Y' hst ?_ hR⟩
  have hne2 : I ≠ l := by rintro rfl; rw [hIS] at hlS; cases hlS
  exact (Heap.get?_update_ne _ _ _ _ hne2).trans ((Heap.get?_update_ne _ _ _ _ hne2).trans hg)
end
end Mine
set_option maxRecDepth 100000
namespace Mine

theorem lri_no_len : typeLookup (.type "list_reverseiterator") "__len__" = pure none := by rw [typeLookup_type, builtinLookup_eq_fast]; kernel_rfl
theorem lri_hint : typeLookup (.type "list_reverseiterator") "__length_hint__" = pure (some (.builtin "list_reverseiterator.__length_hint__")) := by rw [typeLookup_type, builtinLookup_eq_fast]; kernel_rfl

section
variable {prog : Program} {w : World} {A : Around} {E : Value → Shared → Prop} {s : Shared}
theorem lri_length {r : Addr} {Q : Bool → Shared → Prop} (hT : s.TypeIs (.ref r) "list_reverseiterator") (h : Q false s) : wpAny (model prog w) A (Builtin.List.listLengthHint (.ref r)) Q E s := by
  unfold Builtin.List.listLengthHint
  refine wpAny_bind (wpAny_specialOf hT lri_no_len ?_)
  refine wpAny_ite_split (fun hab => absurd hab (by decide)) (fun _ => ?_)
  refine wpAny_ite_split (fun hab => absurd hab (by decide)) (fun _ => ?_)
  refine wpAny_bind (m := specialOf (Value.ref r) "__length_hint__") (wpAny_specialOf hT lri_hint ?_)
  generalize hid : ("list_reverseiterator.__length_hint__" : String) = id0
  wp_delta
  rw [show splitId id0 = some ("list_reverseiterator", "__length_hint__") from by subst hid; decide +kernel]
  subst hid
  refine wpAny_bind (wpAny_isInstance (T := "list_reverseiterator") (b := true) hT (by rw [isSubtype_type]; kernel_rfl) ?_)
  refine wpAny_ite_split (fun hab => absurd hab (by decide)) (fun _ => ?_)
  refine wpAny_ite_split (fun _ => ?_) (fun hab => absurd (by decide +kernel) hab)
  refine wpAny_ite_split (fun hab => absurd hab (by decide +kernel)) (fun _ => ?_)
  exact wpAny_pure h

theorem rv_length {r t : Addr} {items : Array Value} {i : Nat} {Q : Bool → Shared → Prop} (hr : s.heap.get? r = some (rvObj t ((i : Int) - 1))) (ht : IsTup s.heap t items) (hfit : items.size ≤ 10000) (hi : i ≤ items.size) (h : ∀ b tk, Q b { s with toks := tk }) :
    wpAny (model prog w) A (Builtin.List.listLengthHint (.ref r)) Q E s := by
  have hT : s.TypeIs (.ref r) "reversed" := ⟨_, hr, rfl⟩
  unfold Builtin.List.listLengthHint
  refine wpAny_bind (wpAny_specialOf hT rv_no_len ?_)
  refine wpAny_ite_split (fun hab => absurd hab (by decide)) (fun _ => ?_)
  refine wpAny_ite_split (fun hab => absurd hab (by decide)) (fun _ => ?_)
  refine wpAny_bind (m := specialOf (Value.ref r) "__length_hint__") (wpAny_specialOf hT rv_hint.lookup ?_)
  generalize hid : ("reversed.__length_hint__" : String) = id0
  wp_delta
  rw [show splitId id0 = some ("reversed", "__length_hint__") from by subst hid; decide +kernel]
  subst hid
  refine wpAny_bind (wpAny_isInstance (T := "reversed") (b := true) hT F.sub_reversed_self ?_)
  refine wpAny_ite_split (fun hab => absurd hab (by decide)) (fun _ => ?_)
  refine wpAny_ite_split (fun hab => absurd hab (by decide +kernel)) (fun _ => ?_)
  refine wpAny_bind (wpAny_rule ?_)
  refine wpAny_bind (wpAny_of_eq (rv_hint.bind _) ?_)
  dsimp only
  refine wpAny_bind (wpAny_attempt (wpAny_call_entry rv_hint hT rv_entry_hint ?_ (rv_sig_hint _)))
  unfold Builtin.«reversed.__length_hint__»
  refine wpAny_bind (wpAny_of_eq (a := Value.ref r) rfl ?_)
  refine wpAny_bind (wpAny_field hr rfl (x := .ref t) rfl ?_)
  refine wpAny_ite_split (fun hab => absurd hab (by simp)) (fun _ => ?_)
  refine wpAny_bind (len_tuple ht (by (first | lia | omega)) ?_)
  refine wpAny_bind (wpAny_pure ?_)
  dsimp only
  refine wpAny_bind (wpAny_field (s := { s with toks := s.toks + 1 + 1 }) hr rfl (x := rawInt ((i : Int) - 1)) rfl ?_)
  show wpAny _ _ (if ((items.size : Nat) : Int) < (i : Int) - 1 + 1 then _ else _) _ _ _
  rw [if_neg (by (first | lia | omega))]
  refine wpAny_bind (wpAny_mkInt (wpAny_pure ⟨_, rfl, ?_⟩))
  refine wpAny_bind (m := asInt? (Value.int ((i : Int) - 1 + 1) (s.toks + 1 + 1))) (wpAny_pure ?_)
  dsimp only
  have hf : Builtin.List.listFitsIndex ((i : Int) - 1 + 1) = true := fitsIndex_of (by (first | lia | omega)) (by (first | lia | omega))
  refine wpAny_ite_split (fun hab => absurd hab (by rw [hf]; decide)) (fun _ => ?_)
  refine wpAny_ite_split (fun hab => absurd hab (by (first | lia | omega))) (fun _ => ?_)
  refine wpAny_ite_split (fun hab => ?_) (fun _ => wpAny_pure (h _ _))
  have hz : ((i : Int) - 1 + 1).toNat ≤ sizeLine := by rw [sizeLine_eq]; (first | lia | omega)
  unfold Builtin.List.listTooLong at hab
  have := of_decide_eq_true hab
  (first | lia | omega)
end

section
variable {D : Wd} {n : Nat} {L : Addr} {S : PH} {m : Loc} {base : OH} {s : Shared}
variable {Q : Value → PH → Loc → Prop}
theorem firsts_get (vs : List Value) : firsts (fun i => (vs[i]?).getD .none) vs.length = vs := by
  unfold firsts
  apply List.ext_getElem?
  intro i
  rw [List.getElem?_map]
  by_cases h : i < vs.length
  · rw [List.getElem?_eq_getElem h]; simp [List.getElem?_range, h]
  · rw [List.getElem?_eq_none (by simpa using h), List.getElem?_eq_none (by simpa using h)]; rfl

theorem set_self {S : PH} {l : Addr} {x : AObj} (h : S l = some x) : S.set l x = S := by
  funext b; unfold PH.set; split
  · subst_vars; exact h.symm
  · rfl
/-- l.extend(reversed(t)), the reversed object forgotten -/
theorem CallW_extend_rev {l r t : Addr} {vs ws : List Value} {o : Obj} (hr : S r = none) (hl : S l = some (.list vs)) (ht : S t = some (.tup ws)) (ho : vIter t ws.length 0 o) (hw : ws.length ≤ 1000) (hz : vs.length ≤ 5000)
    (h : Q .none (S.set l (.list (vs ++ ws.reverse))) m) : CallW D n L (.builtin "list.extend") [.ref l, .ref r] (S.set r (.raw o)) m Q := fun vs' hv base A s ok Bs X => by
  obtain ⟨a', b', rfl, ha, hb⟩ := map2 hv
  have e1 := er_ref ha; subst e1
  have e2 := er_ref hb; subst e2
  have hl' : (S.set r (.raw o)) l = some (.list vs) := PH.keep_new hr hl
  have ht' : (S.set r (.raw o)) t = some (.tup ws) := PH.keep_new hr ht
  obtain ⟨ol, hol, us, k, rfl, hu⟩ := X.here hl'
  obtain ⟨ot, hot, ut, kt, rfl, hut⟩ := X.here ht'
  obtain ⟨o', hor, e⟩ := X.here (PH.set_same S r (.raw o))
  have e : o' = o := e
  subst e
  have hlt : ut.size = ws.length := by rw [← hut]; simp
  have hr0 : o' = rvObj t ((ws.length : Int) - 1 - ((0 : Nat) : Int)) := ho
  have hr1 : o' = rvObj t ((ws.length : Int) - 1) := by rw [hr0]; simp
  have hlr : l ≠ r := by rintro rfl; rw [hr] at hl; cases hl
  have hlt' : l ≠ t := by rintro rfl; rw [ht] at hl; cases hl
  have IT : IsTup s.heap t ut := ⟨_, hot, rfl, kt, rfl⟩
  refine wpAny_call (codeAny_call_builtin PySem.F.slot_list_extend.plain PySem.F.entry_list_extend (PySem.F.slot_list_extend.check _ _ _ _ _ _ _ _ ⟨_, hol, rfl⟩ (PySem.F.args_list_extend_2 _ _) ?_))
  show wpAny _ A.in1 (Builtin.List.listExtendWith (.ref l) (.ref r) .none) _ _ s
  have hrev := iterRev (D := D) t ws hw
  have hlen : ws.length = ws.reverse.length := by simp
  have := ext_with (A := A) (res := .none) (T := "reversed") (S := S) hrev (l := l) (I := r) (x := r) (vs := vs) hl' (PH.set_same ..) (by rw [erase_set hr]; exact (set_self hl).symm) ho (fun vs' => by
      show (S.set l _) t = _
      rw [PH.set_ne (Ne.symm hlt')]; exact ht) (by (first | lia | omega)) ok.1 (by have := ok.2.2; rw [cLine_is]; (first | lia | omega)) X ⟨_, hor, by rw [hr1]; rfl⟩ hlr (by decide) (by decide) (fun E Q hq => rv_pyIter hor (by rw [hr1]; rfl) hq)
    (fun E Q hq => rv_length (i := ws.length) (by rw [hor, hr1]) IT (by (first | lia | omega)) (by (first | lia | omega)) hq) (R := fun r s' => r = .ok (.ret .none) ∧ ∃ S' m', At D base L S' m' s' ∧ Q .none S' m')
    (fun s' X' => ⟨rfl, _, m, X', by rw [hlen, firsts_get]; exact h⟩)
  refine wpAny_mono this (fun fin s' z => ?_) (fun e s' z => ?_)
  · cases fin with
    | done f => obtain ⟨z1, z2⟩ := z; cases z1; exact z2
    | again c' => exact ⟨z.1, codeAny_mono z.2 fun r s'' z => by obtain ⟨rfl, z⟩ := z; exact z⟩
  · cases z.1
end
end Mine
set_option maxRecDepth 100000
namespace Mine

section
variable {D : Wd} {n : Nat} {L : Addr} {S : PH} {m : Loc} {base : OH} {s : Shared}
variable {Q : Value → PH → Loc → Prop}

noncomputable def wIter (l : Addr) (N : Nat) (i : Nat) (o : Obj) : Prop := o.cls = .type "list_reverseiterator" ∧ o.data = .fields #[.ref l, rawInt ((N : Int) - 1 - i)]
theorem iterLRev (l : Addr) (vs : List Value) : IterK D (fun S => S l = some (.list vs)) vs.length (fun i => (vs.reverse[i]?).getD .none) (wIter l vs.length) where
  item := fun {i S I oI A s Q E} hlt hh hu hr hI hl hg hst hQ => by
    obtain ⟨o, ho, us, k, rfl, hu'⟩ := hr l _ hl
    have hlen : us.size = vs.length := by rw [← hu']; simp
    have hx : us[vs.length - 1 - i]? = some (us[vs.length - 1 - i]'(by (first | lia | omega))) := Array.getElem?_eq_getElem (by (first | lia | omega))
    unfold wIter at hst
    have e : (vs.length : Int) - 1 - i = ((vs.length - 1 - i : Nat) : Int) := by (first | lia | omega)
    rw [e] at hst
    refine wpAny_pyNext_rev_item (i := vs.length - 1 - i) (l := l) ⟨_, hg, hst.1, hst.2⟩ ⟨_, ho, rfl, k, rfl⟩ hx fun h' hit hs => ?_
    obtain ⟨oI', g', c', d'⟩ := hit
    refine hQ _ h' s.toks oI' ?_ g' ?_ fun b o hb e => (hs.2 b hb).trans e
    · have h1 : (us.toList.map er)[vs.length - 1 - i]? = some (er us[vs.length - 1 - i]) := by rw [List.getElem?_map, Array.getElem?_toList, hx]; rfl
      rw [hu'] at h1
      rw [List.getElem?_reverse (by (first | lia | omega)), h1]; rfl
    · have e2 : ((vs.length - 1 - i : Nat) : Int) - 1 = (vs.length : Int) - 1 - ((i + 1 : Nat) : Int) := by (first | lia | omega)
      rw [e2] at d'
      exact ⟨c', d'⟩
  done := fun {S I oI A s Q E} hh hu hr hI hl hg hst hQ => by
    unfold wIter at hst
    have e : (vs.length : Int) - 1 - vs.length = -1 := by (first | lia | omega)
    rw [e] at hst
    exact wpAny_pyNext_rev_end (l := l) hh ⟨_, hg, hst.1, hst.2⟩ fun h' he => hQ h' s.toks fun b o hb e => he b o hb e
  go := fun {elts k pos i I oI v A s Q E} hg hst hQ => by
    cases v with
    | ref T =>
      obtain ⟨c, d, dt, sl⟩ := oI
      obtain ⟨h1, h2⟩ := hst
      dsimp only at h1 h2
      subst h1 h2
      unfold letOwnedTupleGo
      refine wpAny_bind (wpAny_load hg ?_)
      exact wpAny_of_eq (a := ()) rfl hQ
    | _ => exact wpAny_of_eq (a := ()) rfl hQ
theorem CallW_reversed_list {l : Addr} {vs : List Value} (hl : S l = some (.list vs)) (h : ∀ r o, S r = none → wIter l vs.length 0 o → Q (.ref r) (S.set r (.raw o)) m) : CallW D n L (.type "reversed") [.ref l] S m Q := fun vs' hv base A s ok Bs X => by
  obtain ⟨a', rfl, ha⟩ := map1 hv
  have e1 := er_ref ha; subst e1
  obtain ⟨o, hob, us, k, rfl, hu⟩ := X.here hl
  have hlen : us.size = vs.length := by rw [← hu]; simp
  refine call_reversed_list (items := us) ⟨_, hob, rfl, k, rfl⟩ ⟨_, m, X.add (a := s.heap.objs.size) (x := .raw _) (fun b o e => Heap.get?_push_of_some _ e) rfl rfl (fresh_size s) (Heap.get?_push_size _ rfl) rfl rfl, h _ _ (X.fresh (fresh_size s)) ⟨rfl, ?_⟩⟩
  rw [hlen]; simp [revObj]

/-- list(reversed(l)), the iterator forgotten -/
theorem CallW_list_lrev {l r : Addr} {ws : List Value} {o : Obj} (hr : S r = none) (hl : S l = some (.list ws)) (ho : wIter l ws.length 0 o) (hw : ws.length ≤ 1000)
    (h : ∀ a, S a = none → Q (.ref a) (S.set a (.list ws.reverse)) m) : CallW D n L (.type "list") [.ref r] (S.set r (.raw o)) m Q := fun vs' hv base A s ok Bs X => by
  obtain ⟨b', rfl, hb⟩ := map1 hv
  have e2 := er_ref hb; subst e2
  refine callType_codes (Q₁ := fun obj s₁ => obj = .ref s.heap.objs.size ∧ s₁ = { s with heap := s.heap.push { cls := .type "list", data := .seq #[] } }) F.called_list (F.typeCall_list_1 _) F.entry_list_init
    (code_list_new _ ⟨rfl, rfl⟩) fun obj s₁ h₁ => ?_
  obtain ⟨rfl, rfl⟩ := h₁
  have hS : (s.heap.push { cls := .type "list", data := .seq #[] }).get? s.heap.objs.size = some { cls := .type "list", data := .seq #[] } := Heap.get?_push_size _ rfl
  have fr := X.fresh (fresh_size s)
  have X1 : At D base L ((S.set r (.raw o)).set s.heap.objs.size (.list [])) m { s with heap := s.heap.push { cls := .type "list", data := .seq #[] } } :=
    X.add (a := s.heap.objs.size) (x := .list []) (fun b o e => Heap.get?_push_of_some _ e) rfl rfl (fresh_size s) hS ⟨_, _, rfl, rfl⟩ rfl
  have hSa : S s.heap.objs.size = none := by
    cases q : S s.heap.objs.size with
    | none => rfl
    | some x => rw [PH.keep_new hr q] at fr; cases fr
  have hra : s.heap.objs.size ≠ r := by intro q; rw [q, PH.set_same] at fr; cases fr
  have hla : l ≠ s.heap.objs.size := by rintro rfl; rw [hl] at hSa; cases hSa
  refine ⟨⟨_, hS, rfl⟩, F.args_list_init_2 _ _, ?_⟩
  show wpAny _ _ (do let old ← Builtin.List.listItems (.ref s.heap.objs.size); Builtin.List.listUpdate (.ref s.heap.objs.size) (fun _ => #[]); letGo old.toList.reverse; Builtin.List.listExtendWith (.ref s.heap.objs.size) (.ref r) .none) _ _ _
  refine wpAny_bind ?_
  unfold Builtin.List.listItems
  refine wpAny_bind (wpAny_seqItems hS rfl (wpAny_pure ?_))
  show wpAny _ _ (updateSeq s.heap.objs.size (fun _ => #[]) >>= fun _ => letGo (#[] : Array Value).toList.reverse >>= fun _ => Builtin.List.listExtendWith (.ref s.heap.objs.size) (.ref r) .none) _ _ _
  refine wpAny_bind (wpAny_updateSeq hS rfl ?_)
  have X2 := X1.listStep (PH.set_same _ _ _) hS (fun _ => #[]) (ws := []) rfl
  rw [set_set] at X2
  refine wpAny_bind (wpAny_letGo ?_)
  have hr2 : ((S.set r (.raw o)).set s.heap.objs.size (.list [])) r = some (.raw o) := by rw [PH.set_ne hra.symm]; exact PH.set_same ..
  obtain ⟨o', hor, e⟩ := X2.here hr2
  have e : o' = o := e
  subst e
  have hlrev := iterLRev (D := D) l ws
  have hlen : ws.length = ws.reverse.length := by simp
  have hT : Shared.TypeIs { s with heap := (s.heap.push { cls := .type "list", data := .seq #[] }).update s.heap.objs.size (Obj.mapSeq fun _ => #[]) } (.ref r) "list_reverseiterator" := ⟨_, hor, ho.1⟩
  have := ext_with (A := A.in1) (res := .none) (T := "list_reverseiterator") (S := S.set s.heap.objs.size (.list [])) hlrev (l := s.heap.objs.size) (I := r) (x := r) (vs := []) (PH.set_same ..) hr2
    (by rw [set_set]; funext b; unfold PH.erase PH.set; by_cases q : b = r
        · subst q; simp [hr, hra.symm]
        · simp [q]) ho (fun vs' => by
      show ((S.set _ _).set _ _) l = _
      rw [set_set, PH.set_ne hla]; exact hl) (by simp; (first | lia | omega)) ok.1 (by have := ok.2.2; rw [cLine_is]; show A.units + 1 + 20 < _; (first | lia | omega)) X2 hT hra (by decide) (by decide) (fun E Q hq => wpAny_pyIter_revIter ⟨_, hor, ho.1, ho.2⟩ hq)
    (fun E Q hq => lri_length hT (hq _ _)) (R := fun r s' => r = .ok (.ret .none) ∧ ∃ S' m', At D base L S' m' s' ∧ Q (.ref s.heap.objs.size) S' m')
    (fun s' X' => ⟨rfl, _, m, X', by rw [set_set, List.nil_append, hlen, firsts_get]; exact h _ hSa⟩)
  refine wpAny_mono this (fun fin s' z => ?_) (fun e s' z => ?_)
  · cases fin with
    | done f => obtain ⟨z1, z2⟩ := z; cases z1; exact ⟨rfl, z2⟩
    | again c' => exact ⟨z.1, codeAny_mono z.2 fun r s'' z => by obtain ⟨rfl, z⟩ := z; exact ⟨rfl, z⟩⟩
  · cases z.1
end
end Mine
set_option maxRecDepth 100000
namespace Mine

/-! plain sorting -/
noncomputable def ins (x : Int) : List Int → List Int
  | [] => [x]
  | y :: r => if x ≤ y then x :: y :: r else y :: ins x r
noncomputable def isort : List Int → List Int
  | [] => []
  | x :: r => ins x (isort r)
theorem ins_perm (x : Int) : ∀ l, (ins x l).Perm (x :: l)
  | [] => .refl _
  | y :: r => by
    unfold ins; split
    · exact .refl _
    · exact ((ins_perm x r).cons y).trans (.swap x y r)
theorem isort_perm : ∀ l, (isort l).Perm l
  | [] => .refl _
  | x :: r => (ins_perm x _).trans ((isort_perm r).cons x)
theorem ins_sorted (x : Int) : ∀ l, l.Pairwise (· ≤ ·) → (ins x l).Pairwise (· ≤ ·)
  | [], _ => by simp [ins]
  | y :: r, h => by
    unfold ins; split
    · rename_i hxy
      refine List.pairwise_cons.mpr ⟨fun z hz => ?_, h⟩
      rcases List.mem_cons.mp hz with rfl | hz
      · exact hxy
      · have := (List.pairwise_cons.mp h).1 z hz; (first | lia | omega)
    · rename_i hxy
      refine List.pairwise_cons.mpr ⟨fun z hz => ?_, ins_sorted x r (List.pairwise_cons.mp h).2⟩
      rcases List.mem_cons.mp ((ins_perm x r).mem_iff.mp hz) with rfl | hz
      · (first | lia | omega)
      · exact (List.pairwise_cons.mp h).1 z hz
theorem isort_sorted : ∀ l, (isort l).Pairwise (· ≤ ·)
  | [] => .nil
  | x :: r => ins_sorted x _ (isort_sorted r)
theorem sorted_unique : ∀ {a b : List Int}, a.Perm b → a.Pairwise (· ≤ ·) → b.Pairwise (· ≤ ·) → a = b
  | [], b, p, _, _ => (List.perm_nil.mp p.symm).symm
  | x :: a, [], p, _, _ => (nomatch List.perm_nil.mp p)
  | x :: a, y :: b, p, h1, h2 => by
    have e : x = y := by
      have m1 := p.mem_iff.mp (List.mem_cons_self ..)
      have m2 := p.mem_iff.mpr (List.mem_cons_self ..)
      have l1 : x ≤ y := by
        rcases List.mem_cons.mp m2 with q | q
        · (first | lia | omega)
        · exact (List.pairwise_cons.mp h1).1 y q
      have l2 : y ≤ x := by
        rcases List.mem_cons.mp m1 with q | q
        · (first | lia | omega)
        · exact (List.pairwise_cons.mp h2).1 x q
      (first | lia | omega)
    subst e
    rw [sorted_unique (List.Perm.cons_inv p) (List.pairwise_cons.mp h1).2 (List.pairwise_cons.mp h2).2]
theorem isort_eq {a b : List Int} (p : a.Perm b) (h : a.Pairwise (· ≤ ·)) : a = isort b := sorted_unique (p.trans (isort_perm b).symm) h (isort_sorted b)
theorem isort_length (l : List Int) : (isort l).length = l.length := (isort_perm l).length_eq

theorem iL_of {vs : List Value} {ns : List Int} (h : IntsAre vs ns) : vs.map er = iL ns := by
  induction h with
  | nil => rfl
  | cons n t _ ih => simp [iL, er, ih]
@[simp] theorem iL_length (ns : List Int) : (iL ns).length = ns.length := by simp [iL]

section
variable {D : Wd} {n : Nat} {L : Addr} {S : PH} {m : Loc} {base : OH} {s : Shared}
variable {Q : Value → PH → Loc → Prop}

theorem CallW_sorted_list {l : Addr} {ns : List Int} (hl : S l = some (.list (iL ns))) (hz : ns.length < 64) (h : ∀ a, S a = none → Q (.ref a) (S.set a (.list (iL (isort ns)))) m) : CallW D n L (.builtin "sorted") [.ref l] S m Q := fun vs' hv base A s ok Bs X => by
  obtain ⟨a', rfl, ha⟩ := map1 hv
  have e1 := er_ref ha; subst e1
  obtain ⟨us, hL, hI⟩ := X.intL hl
  refine sorted_ints hL hI (by have := hI.length; (first | lia | omega)) fun out ns' a1 a2 a3 => ?_
  obtain ⟨e, he⟩ := sortedAll_at s.heap us out
  have fr : s.heap.get? (s.heap.objs.size + 1) = none := Heap.get?_none_of_le (Nat.le_succ _)
  refine ⟨_, m, X.add (a := s.heap.objs.size + 1) (x := .list (iL (isort ns))) (fun b o e => sortedAll_old e) rfl rfl fr he ⟨_, _, rfl, ?_⟩ rfl, h _ (X.fresh fr)⟩
  rw [iL_of a1, isort_eq a2 a3]

theorem CallW_max {l : Addr} {ns : List Int} (hl : S l = some (.list (iL ns))) (hz : 0 < ns.length) (h : ∀ M, M ∈ ns → (∀ a ∈ ns, a ≤ M) → Q (.int M 0) S m) : CallW D n L (.builtin "max") [.ref l] S m Q := fun vs' hv base A s ok Bs X => by
  obtain ⟨a', rfl, ha⟩ := map1 hv
  have e1 := er_ref ha; subst e1
  obtain ⟨us, hL, hI⟩ := X.intL hl
  obtain ⟨xs, he⟩ := hI.allInts.items
  have hnum : numsOf us = ns := hI.numsOf
  have hnx : xs.toList.map (·.1) = ns := by rw [← nums_intItems, ← he]; exact hnum
  have hlen : xs.size = ns.length := by rw [← hnx]; simp
  rw [he] at hL
  refine max_intList ok.1 hL (by (first | lia | omega)) fun v h' tk hv hk => ?_
  obtain ⟨t, rfl⟩ := intItems_at hv
  obtain ⟨h1, h2⟩ := argBest_gt (numAt xs) (xs.size - 1)
  refine ⟨S, m, X.ext (fun b o e => hk b o e) rfl rfl, h _ ?_ fun a ha => ?_⟩
  · rw [numAt_eq, hnx]; exact getD_mem (by (first | lia | omega))
  · rw [← hnx] at ha
    obtain ⟨j, hj, rfl⟩ := mem_getD ha
    rw [List.length_map, Array.length_toList] at hj
    rw [← numAt_eq]; exact h2 j (by (first | lia | omega))

theorem CallW_list_list {l : Addr} {vs : List Value} (hl : S l = some (.list vs)) (hz : vs.length ≤ 10000) (h : ∀ a, S a = none → Q (.ref a) (S.set a (.list vs)) m) : CallW D n L (.type "list") [.ref l] S m Q := fun vs' hv base A s ok Bs X => by
  obtain ⟨a', rfl, ha⟩ := map1 hv
  have e1 := er_ref ha; subst e1
  obtain ⟨o, ho, us, k, rfl, hu⟩ := X.here hl
  have hlen : us.size = vs.length := by rw [← hu]; simp
  exact call_list_seq l (.inl rfl) ho rfl rfl (fun h' c' hk hg => ⟨_, m, X.add (a := s.heap.objs.size) (x := .list vs) hk rfl rfl (fresh_size s) hg ⟨_, _, rfl, hu⟩ rfl, h _ (X.fresh (fresh_size s))⟩) (by rw [hlen, sizeLine_eq]; (first | lia | omega))

theorem CallW_tuple_list {l : Addr} {vs : List Value} (hl : S l = some (.list vs)) (hz : vs.length ≤ 10000) (h : ∀ a, S a = none → Q (.ref a) (S.set a (.tup vs)) m) : CallW D n L (.type "tuple") [.ref l] S m Q := fun vs' hv base A s ok Bs X => by
  obtain ⟨a', rfl, ha⟩ := map1 hv
  have e1 := er_ref ha; subst e1
  obtain ⟨o, ho, us, k, rfl, hu⟩ := X.here hl
  have hlen : us.size = vs.length := by rw [← hu]; simp
  refine call_tuple_list (items := us) ⟨_, ho, rfl, k, rfl⟩ (fun h' hk => ?_) (by rw [hlen, sizeLine_eq]; (first | lia | omega))
  have X1 : At D base L S m { s with heap := h' } := X.ext hk rfl rfl
  have fr := fresh_size { s with heap := h' }
  exact ⟨_, m, X1.add (a := h'.objs.size) (x := .tup vs) (fun b o e => Heap.get?_push_of_some _ e) rfl rfl fr (Heap.get?_push_size _ rfl) ⟨_, _, rfl, hu⟩ rfl, h _ (X1.fresh fr)⟩

theorem CallW_list_range {r : Addr} {a b : Int} {N : Nat} {o : Obj} (hl : S r = some (.raw o)) (ho : isRangeO a b o) (hN : (b - a).toNat = N) (ha : 0 ≤ a) (ha' : a < 2 ^ 40) (hb' : -(2 ^ 40) < b) (hb : b < 2 ^ 20)
    (h : ∀ l, S l = none → Q (.ref l) (S.set l (.list (iL ((List.range N).map fun i : Nat => a + (i : Int))))) m) : CallW D n L (.type "list") [.ref r] S m Q := fun vs' hv base A s ok Bs X => by
  obtain ⟨a', rfl, ha''⟩ := map1 hv
  have e1 := er_ref ha''; subst e1
  obtain ⟨t, u, v, rfl⟩ := ho
  obtain ⟨ob, hob, e⟩ := X.here hl
  have e : ob = _ := e
  subst e
  have hsz : Builtin.Range.rangeSize a b 1 = (N : Int) := by rw [rangeSize_one]; split <;> (first | lia | omega)
  refine call_list_range (c := 1) ok.1 hob (small_one (by (first | lia | omega)) (by (first | lia | omega)) (by (first | lia | omega)) (by (first | lia | omega))) hsz (by (first | lia | omega)) fun h' tk acc' c' hk hg hacc => ?_
  refine ⟨_, m, X.add (a := s.heap.objs.size) (x := .list (iL ((List.range N).map fun i : Nat => a + (i : Int)))) hk rfl rfl (fresh_size s) hg ⟨_, _, rfl, ?_⟩ rfl, h _ (X.fresh (fresh_size s))⟩
  apply List.ext_getElem?
  intro i
  rw [List.getElem?_map, iL, List.getElem?_map, List.getElem?_map]
  by_cases hi : i < N
  · have hx : acc'[i]? = some (acc'[i]'(by rw [hacc.1]; exact hi)) := Array.getElem?_eq_getElem (by rw [hacc.1]; exact hi)
    obtain ⟨t, ht⟩ := hacc.2 i _ hx
    rw [Array.getElem?_toList, hx, ht]
    simp [List.getElem?_range, hi, er]
  · rw [List.getElem?_eq_none (by simp [hacc.1]; (first | lia | omega)), List.getElem?_eq_none (by simp; (first | lia | omega))]; rfl

theorem strs_of {vs : List Value} {ns : List Str} (h : vs.map er = ns.map fun i => Value.str i 0) : StrsAre vs ns := by
  induction vs generalizing ns with
  | nil => cases ns with | nil => exact .nil | cons => simp at h
  | cons v vs ih =>
    cases ns with
    | nil => simp at h
    | cons n ns =>
      simp only [List.map_cons, List.cons.injEq] at h
      obtain ⟨t, rfl⟩ := er_str h.1
      exact .cons n t (ih h.2)
theorem Cmp_notin_strs {t : Addr} {x : Str} {ys : List Str} {vs : List Value} (ht : S t = some (.tup vs)) (he : vs = ys.map fun i => Value.str i 0) (h : Q (.bool (!(ys.any (· == x)))) S m) : Cmp D n L .NotIn (.str x 0) (.ref t) S m Q := fun a' b' ha hb base A s o Bs X => by
  obtain ⟨u, rfl⟩ := er_str ha
  have e1 := er_ref hb; subst e1
  obtain ⟨o, ho, us, k, rfl, hu⟩ := X.here ht
  exact notin_tuple_strs (items := us) ⟨_, ho, rfl, k, rfl⟩ (strs_of (hu.trans he)) ⟨S, m, X, h⟩
end
end Mine
set_option maxRecDepth 100000
namespace Mine

section
variable {prog : Program} {w : World} {A : Around} {E : Value → Shared → Prop} {s : Shared}
theorem collect_dict {d : Addr} {kvs : List (Int × Value)} {ep : Nat} {Q : List Value → Shared → Prop} (hh : A.handled = none) (lo : (d == sysModules) = false) (hd : s.heap.DictAt (intKind prog w) d kvs ep) (hz : kvs.length ≤ 10000)
    (h : ∀ (vs : List Value) h' tk, (∀ b o, s.heap.get? b = some o → h'.get? b = some o) → IntsAre vs (kvs.map (·.1)) → Q vs { s with heap := h', toks := tk }) :
    wpAny (model prog w) A (collect (.ref d)) Q E s := by
  unfold collect
  refine wpAny_bind (wpAny_runValue (codeAny_builtin F.entry_proto_collect ?_))
  rw [Around.under_plainId F.plain_proto_collect _]
  show wpAny _ A.in1 (newList [] >>= fun l => again (.builtin "list.__iadd__" ⟨[l, .ref d], []⟩)) _ _ s
  refine wpAny_bind (wpAny_newObj_type ?_)
  refine wpAny_pure ⟨plainId_quiet F.plain_list_iadd _, codeAny_builtin F.entry_list_iadd ?_⟩
  rw [Around.under_plainId F.plain_list_iadd _]
  show wpAny _ A.in1 (Builtin.List.listExtendWith (.ref s.heap.objs.size) (.ref d) (.ref s.heap.objs.size)) _ _ _
  have hS : (s.heap.push { cls := .type "list", data := .seq ([] : List Value).toArray }).get? s.heap.objs.size = some { cls := .type "list", data := .seq #[] 0 } := Heap.get?_push_size _ rfl
  have K := kdl_dict (prog := prog) (w := w) (knd := intKind prog w) (d := d) (kvs := kvs) (ep := ep) lo
  have hne : s.heap.objs.size ≠ d := Nat.ne_of_gt hd.lt_size
  refine wpAny_mono (kdl_extend (A := A) K hh (hd.push _) s.heap.objs.size hne hne (.ref s.heap.objs.size) 0 hS
    (R := fun r s' => r = .ok (.ret (.ref s.heap.objs.size)) ∧ ∃ vs c h' tk, s' = { s with heap := h', toks := tk } ∧ h'.get? s.heap.objs.size = some { cls := .type "list", data := .seq vs c } ∧ (∀ b o, s.heap.get? b = some o → h'.get? b = some o) ∧ IntsAre vs.toList (kvs.map (·.1)))
    (fun h' tk acc' c' hk hg hacc => ⟨rfl, acc', c', h', tk, rfl, hg, fun b o e => hk b o (Nat.ne_of_lt (Heap.lt_size e)) (Heap.get?_push_of_some _ e), ?_⟩) (by rw [sizeLine_eq]; (first | lia | omega))) (fun fin s' z => ?_) (fun e s' z => ?_)
  · have key : ∀ (l : List Value) (ks : List (Int × Value)), l.length = ks.length → (∀ (j : Nat) (v : Value), l[j]? = some v → ∃ k x, ks[j]? = some (k, x) ∧ (intKind prog w).is k v = true) → IntsAre l (ks.map (·.1)) := by
      intro l
      induction l with
      | nil => intro ks hl _; cases ks with | nil => exact .nil | cons => cases hl
      | cons v l ih =>
        intro ks hl hv
        cases ks with
        | nil => cases hl
        | cons p ks =>
          obtain ⟨k, x, e, hi⟩ := hv 0 v rfl
          simp only [List.getElem?_cons_zero, Option.some.injEq] at e
          subst e
          obtain ⟨t, rfl⟩ := Value.isInt_shape hi
          exact .cons k t (ih ks (by simpa using hl) fun j v hj => by simpa using hv (j + 1) v (by simpa using hj))
    exact key _ _ (by rw [Array.length_toList]; exact hacc.1) fun j v e => hacc.2 j v (by rw [← Array.getElem?_toList]; exact e)
  · have fin' : ∀ s', (∃ vs c h' tk, s' = { s with heap := h', toks := tk } ∧ h'.get? s.heap.objs.size = some { cls := .type "list", data := .seq vs c } ∧ (∀ b o, s.heap.get? b = some o → h'.get? b = some o) ∧ IntsAre vs.toList (kvs.map (·.1))) →
        wpAny (model prog w) A (do
        match (← load s.heap.objs.size).data with
          | Data.seq xs _ => pure xs.toList
          | _ => unsupported "internal:collect") Q E s' := by
      rintro s' ⟨vs, c, h', tk, rfl, hg, hk, hI⟩
      refine wpAny_bind (wpAny_load hg ?_)
      exact wpAny_pure (h _ h' tk hk hI)
    cases fin with
    | done f => obtain ⟨z1, z2⟩ := z; cases z1; exact fin' _ z2
    | again c' => exact ⟨z.1, codeAny_mono z.2 fun r s'' z => by obtain ⟨rfl, z⟩ := z; exact fin' _ z⟩
  · cases z.1

theorem sorted_dict {d : Addr} {kvs : List (Int × Value)} {ep : Nat} {Q : Value → Shared → Prop} (hh : A.handled = none) (lo : (d == sysModules) = false) (hd : s.heap.DictAt (intKind prog w) d kvs ep) (hz : kvs.length < 64)
    (h : ∀ a (vs : List Value) (ns' : List Int) e h' tk, (∀ b o, s.heap.get? b = some o → h'.get? b = some o) → s.heap.get? a = none → h'.get? a = some (seqObj "list" vs.toArray e) → IntsAre vs ns' → ns'.Perm (kvs.map (·.1)) → ns'.Pairwise (· ≤ ·) → Q (.ref a) { s with heap := h', toks := tk }) :
    wpAny (model prog w) A (call (.builtin "sorted") [.ref d]) Q E s := by
  refine Calls.call_function_entry kind_sorted plain_sorted entry_sorted (args_sorted1 _) ?_
  unfold Builtin.«sorted»
  refine wpAny_bind (m := checkCount "sorted" 1 1 _) (wpAny_pure ?_)
  refine wpAny_bind (collect_dict hh lo hd (by (first | lia | omega)) fun vs h1 tk hk hI => ?_)
  refine wpAny_bind (wpAny_newList ?_)
  have hoL : (h1.push (seqObj "list" vs.toArray 0)).get? h1.objs.size = some (seqObj "list" vs.toArray 0) := Heap.get?_push_size _ rfl
  have hlen : vs.length < 64 := by rw [hI.length]; simpa using hz
  refine wpAny_bind (wpAny_holding (wpAny_call_entry slot_list_sort ⟨_, hoL, rfl⟩ entry_list_sort (list_sort_tree (s := { s with heap := h1.push (seqObj "list" vs.toArray 0), toks := tk }) hoL hI hlen fun out ns' a1 a2 a3 => ⟨_, rfl, ?_⟩) (args_list_sort _)))
  obtain ⟨e, he⟩ := sortedHeap_at (h := h1.push (seqObj "list" vs.toArray 0)) (vs := vs) (n := 0) (out := out) hoL
  refine wpAny_pure ⟨_, rfl, h h1.objs.size out.toList ns' e _ _ (fun b o eb => ?_) ?_ (by simpa using he) a1 a2 a3⟩
  · have e1 := hk b o eb
    rw [sortedHeap_old (Nat.ne_of_lt (Heap.lt_size e1)) (by rw [size_push']; exact Nat.lt_succ_of_lt (Heap.lt_size e1))]
    exact Heap.get?_push_of_some _ e1
  · cases q : s.heap.get? h1.objs.size with
    | none => rfl
    | some o => exact absurd (Heap.lt_size (hk _ _ q)) (Nat.lt_irrefl _)
end

section
variable {D : Wd} {n : Nat} {L : Addr} {S : PH} {m : Loc} {nm : List (Str × NameKind)} {env : Env} {base : OH} {s : Shared}
variable {Q : Value → PH → Loc → Prop}
theorem CallW_sorted_dict {d : Addr} {kvs : List (Int × Value)} {ep : Nat} (hd : S d = some (.dict kvs ep)) (hz : kvs.length < 64) (h : ∀ a, S a = none → Q (.ref a) (S.set a (.list (iL (isort (kvs.map (·.1)))))) m) : CallW D n L (.builtin "sorted") [.ref d] S m Q := fun vs' hv base A s ok Bs X => by
  obtain ⟨a', rfl, ha⟩ := map1 hv
  have e1 := er_ref ha; subst e1
  obtain ⟨kvs', D', he⟩ := X.dictAt hd
  have hlen : kvs'.length = kvs.length := by rw [← he]; simp
  refine sorted_dict ok.1 (X.notSys Bs hd) D' (by (first | lia | omega)) fun a vs ns' e h' tk hk hn hg a1 a2 a3 => ?_
  have e2 : kvs'.map (·.1) = kvs.map (·.1) := by rw [← he]; simp
  have X1 : At D base L (S.set a (.list (iL (isort (kvs.map (·.1)))))) m { s with heap := h', toks := tk } :=
    X.add hk rfl rfl hn hg ⟨_, _, rfl, by rw [← e2, ← isort_eq a2 a3, List.toList_toArray]; exact iL_of a1⟩ rfl
  exact ⟨_, m, X1, h a (X.fresh hn)⟩

/-- a slice [:k] of a list of the start heap -/
theorem EV_slice_base {x : Str} {p p1 p2 pos : Pos} {kk k : Nat} {l : Addr} {vs : List Value} (fe : FE L nm env) (hl : nm.lookup x = some .local) (hv : m x = some (.ref l)) (hb : D.h₁.IsList l vs.toArray) (hz : vs.length ≤ 10000)
    (h : ∀ a, S a = none → Q (.ref a) (S.set a (.list ((vs.take k).map er))) m) :
    EV D n L (eval (.Subscript (.Name x p) (.Slice none (some (.Constant (.int (k : Int)) kk p1)) none p2) pos) env) S m Q := fun base A s ok Bs X => by
  refine wpAny_Subscript_list_slice ?_ (by intro _ _; with_unfolding_all rfl)
  refine wpAny_mono (EV_local (D := D) (n := n) (Q := fun v S' m' => v = .ref l ∧ S' = S ∧ m' = m) fe hl hv ⟨rfl, rfl, rfl⟩ base A s ok Bs X) (fun o s₁ z => ?_) fun _ _ e => e
  obtain ⟨S₁, m₁, X₁, e1, e2, e3⟩ := z
  have e1 := er_ref e1; subst e1 e2 e3
  rw [evalPart_none]
  refine wpAny_pure ?_
  refine wpAny_mono (show wpAny _ A (evalPart (some (.Constant (.int (k : Int)) kk p1)) env) (fun v s' => ∃ t tk, v = .int (k : Int) t ∧ s' = { s₁ with toks := tk }) (fun _ _ => False) s₁ from ?_) (fun v s₂ ⟨t, tk, ev, es⟩ => ?_) fun _ _ e => e.elim
  · exact wpAny_Constant_int (k := kk) (pos := p1) ⟨_, _, rfl, rfl⟩
  · subst ev es
    have hL : s₁.heap.IsList l vs.toArray := hb.at fun o e => X₁.keeps Bs _ _ e
    refine ⟨l, vs.toArray, none, some (k : Int), rfl, hL, by rw [List.size_toArray, sizeLine_eq]; (first | lia | omega), .none, .int .., ?_⟩
    rw [slicePick_upto', List.toList_toArray]
    have fr : s₁.heap.get? (s₁.heap.objs.size + 1) = none := Heap.get?_none_of_le (Nat.le_succ _)
    have g : ((s₁.heap.push { cls := .type "slice", data := .fields #[.none, .int (k : Int) t, .none] }).push { cls := .type "list", data := .seq (vs.take k).toArray }).get? (s₁.heap.objs.size + 1) = some { cls := .type "list", data := .seq (vs.take k).toArray } := by
      have := Heap.get?_push_size (h := s₁.heap.push { cls := .type "slice", data := .fields #[.none, .int (k : Int) t, .none] }) (o := { cls := .type "list", data := .seq (vs.take k).toArray }) rfl
      rwa [Heap.size_push] at this
    exact ⟨_, m₁, X₁.add (a := s₁.heap.objs.size + 1) (x := .list ((vs.take k).map er)) (fun b o e => Heap.get?_push_of_some _ (Heap.get?_push_of_some _ e)) rfl rfl fr g ⟨_, _, rfl, by simp⟩ rfl, h _ (X₁.fresh fr)⟩
end
end Mine
set_option maxRecDepth 100000
namespace Mine

section
variable {D : Wd} {n : Nat} {L : Addr} {S : PH} {m : Loc} {base : OH} {s s' : Shared}

theorem AtC.freeze {I : Addr} {oI : Obj} (C : AtC D base S s) (h : S I = some (.raw oI)) : base I = none ∧ s.heap.get? I = some oI ∧ AtC D (base.set I oI) (S.erase I) s := by
  have hb := C.new I _ h
  obtain ⟨o', ho, e⟩ := C.here I _ h
  have e : o' = oI := e
  subst e
  refine ⟨hb, ho, ⟨fun a o e => ?_, fun a x e => C.here a x (PH.erase_some e).2, fun a x e => ?_, ?_, C.gens, C.os⟩⟩
  · by_cases qa : a = I
    · subst qa; rw [OH.set_same] at e; cases e; exact ho
    · rw [OH.set_ne qa] at e; exact C.keep a o e
  · obtain ⟨e1, e2⟩ := PH.erase_some e
    rw [OH.set_ne e1]; exact C.new a x e2
  · obtain ⟨δ, hd⟩ := C.dicts
    refine ⟨δ, fun a Cl fs e => ?_⟩
    obtain ⟨e1, e2⟩ := PH.erase_some e
    obtain ⟨h1, h2, h3, h4, h5⟩ := hd a Cl fs e2
    have : δ a ≠ I := by intro z; rw [z, h] at h4; cases h4
    exact ⟨h1, h2, by rw [OH.set_ne this]; exact h3, by rw [PH.erase_ne this]; exact h4, fun a' C' fs' e' => h5 a' C' fs' (PH.erase_some e').2⟩

/-- a new object that is held aside -/
theorem AtC.aside {a : Addr} {o : Obj} (C : AtC D base S s) (k : ∀ b o, s.heap.get? b = some o → s'.heap.get? b = some o) (hg : s'.gens = s.gens) (ho : s'.os = s.os) (hn : s.heap.get? a = none) (ha : s'.heap.get? a = some o) :
    AtC D (base.set a o) S s' := by
  obtain ⟨f1, f2⟩ := C.fresh hn
  have Y := C.ext k hg ho
  refine ⟨fun b ob e => ?_, Y.here, fun b x e => ?_, ?_, Y.gens, Y.os⟩
  · by_cases q : b = a
    · subst q; rw [OH.set_same] at e; cases e; exact ha
    · rw [OH.set_ne q] at e; exact Y.keep b ob e
  · rw [OH.set_ne (by rintro rfl; rw [f1] at e; cases e)]; exact Y.new b x e
  · obtain ⟨δ, hd⟩ := C.dicts
    refine ⟨δ, fun b Cl fs e => ?_⟩
    obtain ⟨h1, ⟨es, n, h2, h3⟩, h4, h5⟩ := hd b Cl fs e
    have : δ b ≠ a := by intro z; rw [z, hn] at h2; cases h2
    exact ⟨k _ _ h1, ⟨es, n, k _ _ h2, h3⟩, by rw [OH.set_ne this]; exact h4, h5⟩

/-- what was held aside comes into sight -/
theorem AtC.sight {a : Addr} {o : Obj} {x : AObj} (hb : base a = none) (C : AtC D (base.set a o) S s) (r : ORep D.w x o) (hx : x.isInst = false) : AtC D base (S.set a x) s := by
  have hSa : S a = none := by
    cases q : S a with
    | none => rfl
    | some y => have := C.new a y q; rw [OH.set_same] at this; cases this
  have hk := C.keep a o (OH.set_same ..)
  refine ⟨fun b ob e => C.keep b ob (by rw [OH.set_ne (by rintro rfl; rw [hb] at e; cases e)]; exact e), fun b y e => ?_, fun b y e => ?_, ?_, C.gens, C.os⟩
  · by_cases q : b = a
    · subst q; rw [PH.set_same] at e; cases e; exact ⟨o, hk, r⟩
    · rw [PH.set_ne q] at e; exact C.here b y e
  · by_cases q : b = a
    · subst q; exact hb
    · rw [PH.set_ne q] at e; have := C.new b y e; rwa [OH.set_ne q] at this
  · obtain ⟨δ, hd⟩ := C.dicts
    refine ⟨δ, fun b Cl fs e => ?_⟩
    have q : b ≠ a := by rintro rfl; rw [PH.set_same] at e; cases e; cases hx
    rw [PH.set_ne q] at e
    obtain ⟨h1, h2, h4, h5, h6⟩ := hd b Cl fs e
    have q2 : δ b ≠ a := by intro z; rw [z, OH.set_same] at h4; cases h4
    refine ⟨h1, h2, by rwa [OH.set_ne q2] at h4, by rw [PH.set_ne q2]; exact h5, fun a' C' fs' e' => h6 a' C' fs' ?_⟩
    have q3 : a' ≠ a := by rintro rfl; rw [PH.set_same] at e'; cases e'; cases hx
    rwa [PH.set_ne q3] at e'

/-- a new frame, its names none -/
theorem AtC.frame {C : Addr} {mC : Str → Option Value} {mm : Loc} (X : AtC D base S s) (k : ∀ b o, s.heap.get? b = some o → s'.heap.get? b = some o) (hg : s'.gens = s.gens) (ho : s'.os = s.os) (hn : s.heap.get? C = none)
    (hns : s'.heap.Ns C mC) (hm : ∀ x, (mC x).map er = mm x) : At D base C S mm s' := by
  obtain ⟨oC, es, ep, h1, h2, h3, h4⟩ := hns
  exact ⟨(X.fresh hn).2, oC, X.aside k hg ho hn h1, es, ep, h2, h3, mC, h4, hm⟩

theorem At.of (hL : base L = none) {oL : Obj} (C : AtC D (base.set L oL) S s) (h : ONs oL m) : At D base L S m s := ⟨hL, oL, C, h⟩
end

section
variable {D : Wd} {n : Nat} {L : Addr} {S : PH} {m : Loc} {nm : List (Str × NameKind)} {env : Env} {base : OH} {s s' : Shared} {A : Around} {E : Value → Shared → Prop}

theorem compLoop_go {A : Around} {M : Program} {w : World} {env : Env} {s : Shared} {RP : Result → Shared → Prop} {elt target iter : Expr} {scope : Scope} {pos : Pos} {it acc : Value} (I : Nat → Shared → Prop)
    (turn : ∀ n s, I n s → ∀ Z B, (∀ s₁, RP (.ok .next) s₁ → Z s₁) → (∀ v s₁, wpAny (model M w) A (assign target env v) (fun _ s₂ => wpAny (model M w) A (eval elt env) (fun x s₄ => wpAny (model M w) A (call (.builtin "list.append") [acc, x]) (fun _ s₅ => ∃ m, m < n ∧ I m s₅) NoE s₄) NoE s₂) NoE s₁ → B v s₁) →
      wpAny (model M w) A (pyNext it) (NextP Z B) NoE s) (n : Nat) (h : I n s) (ht : ∀ v, letOwnedTupleGo target it v = pure ()) :
    codeAny (model M w) A (.compLoop (.ListComp elt [⟨target, iter, [], 0⟩] scope pos) 0 it acc env) RP s := by
  refine codeAny_compLoop_tests I (fun n s hI => ?_) n h ht
  refine wpAny_mono (turn n s hI (RP (.ok .next)) ?B (fun _ h => h) ?hB) (fun r s h => ?hr) fun _ _ e => e.elim
  case hr =>
    cases r with
    | none => exact h
    | some v => exact h
  case hB =>
    intro v s₁ h
    refine wpAny_mono h (fun _ s h => wpAny_pure ?_) fun _ _ e => e.elim
    rw [if_pos rfl]
    exact wpAny_mono h (fun x s h => wpAny_mono h (fun _ s h => h) fun _ _ e => e.elim) fun _ _ e => e.elim
theorem comp_core {dep : PH → Prop} {N : Nat} {val : Nat → Value} {st : Nat → Obj → Prop} (K : IterK D dep N val st) {elt iter : Expr} {x : Str} {px pos : Pos} {scope : Scope} {cl : List (Str × Addr)} {I : Addr} {oI : Obj} {J : Nat → List Value → PH → Prop} {RR : Value → Addr → Result → Shared → Prop}
    (fe : FE L nm env) (hcell : ∀ y ∈ scope.names, y.2 ≠ .cell) (hkind : scope.kind = .function) (hx : scope.names.lookup x = some .local) (hdbg : (relabel scope env).names.lookup (Str.ofString "__debug__") = none)
    (ok : Ok n A) (Bs : Base D base) (X : At D base L S m s) (hI : S I = some (.raw oI)) (hst : st 0 oI) (hN : N ≤ 5000)
    (hself : ∀ (A : Around) (s : Shared) (E : Value → Shared → Prop) (Q : Value → Shared → Prop), s.heap.get? I = some oI → Q (.ref I) s → wpAny (model pw D.w) A (pyIter (.ref I)) Q E s)
    (hJ0 : J 0 [] (S.erase I)) (hdep : ∀ i vs S, J i vs S → dep S)
    (step : ∀ i vs S C cenv mC, FE C (relabel scope env).names cenv → cenv.cells = cl → i < N → J i vs S → mC x = some (val i) → EV D n C (eval elt cenv) S mC fun v S' _ => J (i + 1) (vs ++ [v]) S')
    (hRR : ∀ B C oC vs S' s', base C = none → (∃ mC, s'.heap.Ns C mC) → S' B = none → J N vs S' → At D (base.set C oC) L (S'.set B (.list vs)) m s' → RR (.ref B) C (.ok .next) s') :
    wpAny (model pw D.w) A (newList []) (fun acc s₃ => wpAny (model pw D.w) A (newFunctionEnv scope env.globals cl [] env.qual none .none (some env)) (fun cenv s₄ =>
      codeAny (model pw D.w) A (.compStart (.ListComp elt [⟨.Name x px, iter, [], 0⟩] scope pos) 0 (.ref I) acc { cenv with scope := relabel scope env }) (RR acc cenv.locals) s₄) E s₃) E s := by
  obtain ⟨hL, oL, C₀, hO⟩ := X
  obtain ⟨hbI, hgI, C₁⟩ := C₀.freeze hI
  have hIL : I ≠ L := by rintro rfl; rw [OH.set_same] at hbI; cases hbI
  refine wpAny_newObj_type ?_
  generalize hB : s.heap.objs.size = B
  have frB : s.heap.get? B = none := by rw [← hB]; exact fresh_size s
  obtain ⟨s₃, hs₃⟩ : ∃ s₃ : Shared, s₃ = { s with heap := s.heap.push { cls := .type "list", dict := none, data := .seq ([] : List Value).toArray } } := ⟨_, rfl⟩
  rw [← hs₃]
  have gB : s₃.heap.get? B = some { cls := .type "list", data := .seq #[] 0 } := by rw [hs₃, ← hB]; exact Heap.get?_push_size _ rfl
  have C₂ : AtC D (((base.set L oL).set I oI).set B { cls := .type "list", data := .seq #[] 0 }) (S.erase I) s₃ :=
    C₁.aside (fun b o e => by rw [hs₃]; exact Heap.get?_push_of_some _ e) (by rw [hs₃]) (by rw [hs₃]) frB gB
  have hbB : ((base.set L oL).set I oI) B = none := (C₁.fresh frB).2
  have hBI : B ≠ I := by rintro rfl; rw [OH.set_same] at hbB; cases hbB
  have hBL : B ≠ L := by rintro rfl; rw [OH.set_ne hBI, OH.set_same] at hbB; cases hbB
  have hb0B : base B = none := by rwa [OH.set_ne hBI, OH.set_ne hBL] at hbB
  have hb0I : base I = none := by rwa [OH.set_ne hIL] at hbI
  refine wpAny_newFunctionEnv hcell (by intro y hy; simp at hy) (fun h₁ hns₁ hsb₁ => ?_) hkind
  generalize hC : s₃.heap.objs.size = C at hns₁ hsb₁ ⊢
  have frC : s₃.heap.get? C = none := by rw [← hC]; exact fresh_size s₃
  have k₁ : ∀ b o, s₃.heap.get? b = some o → h₁.get? b = some o := fun b o e => hsb₁.extBut b o (by rintro rfl; rw [frC] at e; cases e) (Heap.get?_push_of_some _ e)
  have X₁ : At D (((base.set L oL).set I oI).set B { cls := .type "list", data := .seq #[] 0 }) C (S.erase I) (fun _ => none) { s₃ with heap := h₁, toks := s₃.toks + ([] : List (Str × Value)).length } :=
    C₂.frame k₁ rfl rfl frC hns₁ (fun x => rfl)
  obtain ⟨s₄, hs₄⟩ : ∃ s₄ : Shared, s₄ = { s₃ with heap := h₁, toks := s₃.toks + ([] : List (Str × Value)).length } := ⟨_, rfl⟩
  rw [← hs₄] at X₁ ⊢
  have fe' : FE C (relabel scope env).names (compEnvC scope cl C env) := ⟨hkind, rfl, fe.gl, fe.bl, rfl, hdbg⟩
  have hxl : (relabel scope env).names.lookup x = some .local := lookup_relabel_local hx
  have loop : codeAny (model pw D.w) A (.compLoop (.ListComp elt [⟨.Name x px, iter, [], 0⟩] scope pos) 0 (.ref I) (.ref B) (compEnvC scope cl C env)) (RR (.ref B) C) s₄ := by
    refine compLoop_go (fun k s' => ∃ i us c oI' S' mC, k = N + 1 - i ∧ i ≤ N ∧ st i oI' ∧ us.size = i ∧ At D (((base.set L oL).set B { cls := .type "list", data := .seq us c }).set I oI') C S' mC s' ∧ J i (us.toList.map er) S') ?_ (N + 1)
      ⟨0, #[], 0, oI, S.erase I, fun _ => none, rfl, Nat.zero_le _, hst, rfl, by rw [OH.comm hBI]; exact X₁, hJ0⟩ (by intro _; rfl)
    intro k s' z Z ZB hZ hB
    obtain ⟨i, us, c, oI', S', mC, rfl, hi, hst', hus, X', hJ⟩ := z
    have hgI' : s'.heap.get? I = some oI' := X'.toC.keep I oI' (OH.set_same ..)
    have hSI : S' I = none := by
      cases q : S' I with
      | none => rfl
      | some x => have := X'.toC.new I x q; rw [OH.set_same] at this; cases this
    have hun : A.units + 10 < cLine := by have := ok.2.2; rw [cLine_is]; (first | lia | omega)
    have Bs' : ∀ us c oI', Base D (((base.set L oL).set B { cls := .type "list", data := .seq us c }).set I oI') := fun us c oI' a ob e => by
      have e := Bs a ob e
      rw [OH.set_ne (by rintro rfl; rw [hb0I] at e; cases e), OH.set_ne (by rintro rfl; rw [hb0B] at e; cases e), OH.set_ne (by rintro rfl; rw [hL] at e; cases e)]; exact e
    by_cases hlt : i < N
    · refine K.item (Q := NextP Z ZB) hlt ok.1 hun (fun a x e => X'.here e) hSI (hdep _ _ _ hJ) hgI' hst' fun v h' tk oI'' hv hI'' hst'' hk => ?_
      have X4 : At D (((base.set L oL).set B { cls := .type "list", data := .seq us c }).set I oI'') C S' mC { s' with heap := h', toks := tk } := X'.rebase hk hI'' rfl rfl
      clear X' hSI hgI' hZ hdep hRR hJ0
      refine hB v _ ?_
      refine W.go (Asn_name (D := D) (n := n) (U := fun S'' m'' => S'' = S' ∧ m'' = mC.set x (val i)) fe' hxl ⟨rfl, rfl⟩ v hv) ok (Bs' _ _ _) X4 fun _ s₂ S₂ m₂ X₂ z => ?_
      obtain ⟨e1, e2⟩ := z
      subst e1 e2
      refine W.go (step i _ S₂ C _ _ fe' rfl hlt hJ (Loc.set_same ..)) ok (Bs' _ _ _) X₂ fun y s₅ S₅ m₅ X₅ h₅ => ?_
      have gB5 : s₅.heap.get? B = some { cls := .type "list", data := .seq us c } := X₅.toC.keep B _ (by rw [OH.set_ne hBI, OH.set_same])
      refine call_meets PySem.F.slot_list_append ⟨_, gB5, rfl⟩ PySem.F.entry_list_append (PySem.F.args_list_append_2 _ _) (PySem.list_append B us c y (by rw [sizeLine_eq]; (first | lia | omega))) ⟨gB5, ?_⟩
      have u1 := IsL.update gB5 (·.push y)
      refine ⟨N + 1 - (i + 1), by (first | lia | omega), i + 1, us.push y, (if (us.push y).size == us.size then c else c + 1), oI'', S₅, m₅, rfl, by (first | lia | omega), hst'', by rw [Array.size_push, hus], ?_, by rw [Array.toList_push, List.map_append]; exact h₅⟩
      rw [OH.comm hBI] at X₅ ⊢
      exact X₅.rebase (fun b o hb e => (Heap.get?_update_ne _ _ _ _ hb).trans e) u1 rfl rfl
    · have hiN : i = N := by (first | lia | omega)
      subst hiN
      refine K.done (Q := NextP Z ZB) ok.1 hun (fun a x e => X'.here e) hSI (hdep _ _ _ hJ) hgI' hst' fun h' tk hk => ?_
      have hb1I : ((base.set L oL).set B { cls := .type "list", data := .seq us c }) I = none := by rw [OH.set_ne hBI.symm, OH.set_ne hIL]; exact hb0I
      have Y : At D ((base.set L oL).set B { cls := .type "list", data := .seq us c }) C S' mC { s' with heap := h', toks := tk } := At.thaw hb1I X' hk rfl rfl
      obtain ⟨m', hnsC, _⟩ := Y.ns
      obtain ⟨hCb, oC, CC, hOC⟩ := Y
      have hCB : C ≠ B := by rintro rfl; rw [OH.set_same] at hCb; cases hCb
      have hCL : C ≠ L := by rintro rfl; rw [OH.set_ne hCB, OH.set_same] at hCb; cases hCb
      have hb0C : base C = none := by rwa [OH.set_ne hCB, OH.set_ne hCL] at hCb
      have hSB : S' B = none := by
        cases q : S' B with
        | none => rfl
        | some x => have := CC.new B x q; rw [OH.set_ne hCB.symm, OH.set_same] at this; cases this
      refine hZ _ (hRR B C oC _ S' _ hb0C ⟨m', hnsC⟩ hSB hJ ?_)
      rw [OH.comm hCB.symm] at CC
      have hb2 : ((base.set L oL).set C oC) B = none := by rw [OH.set_ne hCB.symm, OH.set_ne hBL]; exact hb0B
      have CC' := AtC.sight (x := .list (us.toList.map er)) hb2 CC ⟨us, c, rfl, rfl⟩ rfl
      rw [OH.comm hCL.symm] at CC'
      exact At.of (by rw [OH.set_ne hCL.symm]; exact hL) CC' hO
  have gI4 : s₄.heap.get? I = some oI := X₁.toC.keep I oI (by rw [OH.set_ne hBI.symm, OH.set_same])
  exact codeAny_compStart_list loop (hself _ _ _ _ gI4 loop)
end
end Mine
set_option maxRecDepth 100000
namespace Mine

/-- iter() of the iterator is itself -/
noncomputable def Selfs (D : Wd) (st : Nat → Obj → Prop) : Prop := ∀ (I : Addr) (oI : Obj) (A : Around) (s : Shared) (E : Value → Shared → Prop) (Q : Value → Shared → Prop), st 0 oI → s.heap.get? I = some oI → Q (.ref I) s → wpAny (model pw D.w) A (pyIter (.ref I)) Q E s
theorem selfs_list {D : Wd} (l : Addr) : Selfs D (lIter l) := fun I oI A s E Q h g q => wpAny_pyIter_listiter (i := 0) (l := l) ⟨oI, g, h⟩ q
theorem selfs_range {D : Wd} (a : Int) (N : Nat) : Selfs D (rIter a N) := fun I oI A s E Q h g q => by
  unfold rIter at h; subst h
  exact wpAny_pyIter_rangeiter g q

/-- a comprehension's turns, by an invariant, and what comes after -/
@[reducible] noncomputable def CompK (D : Wd) (n : Nat) (elt : Expr) (env : Env) (scope : Scope) (cl : List (Str × Addr)) (x : Str) (Z : Addr → PH → Loc → Prop) (I : Addr) (S : PH) (m : Loc) : Prop :=
  ∃ dep N val st oI, IterK D dep N val st ∧ S I = some (.raw oI) ∧ st 0 oI ∧ N ≤ 5000 ∧ Selfs D st ∧ ∃ J : Nat → List Value → PH → Prop, J 0 [] (S.erase I) ∧ (∀ i vs S, J i vs S → dep S) ∧
      (∀ i vs S C cenv mC, FE C (relabel scope env).names cenv → cenv.cells = cl → i < N → J i vs S → mC x = some (val i) → EV D n C (eval elt cenv) S mC fun v S' _ => J (i + 1) (vs ++ [v]) S') ∧
      ∀ vs S' a, S' a = none → J N vs S' → Z a (S'.set a (.list vs)) m
section
variable {D : Wd} {n : Nat} {L : Addr} {S : PH} {m : Loc} {nm : List (Str × NameKind)} {env : Env} {base : OH} {s s' : Shared} {rest : List Stmt}
variable {Q : Value → PH → Loc → Prop} {R : Flow → PH → Loc → Prop}

theorem EV_comp {elt iter : Expr} {x : Str} {px pos : Pos} {scope : Scope} {cl : List (Str × Addr)} (fe : FE L nm env) (hclos : closureFor scope env = pure cl) (hcell : ∀ y ∈ scope.names, y.2 ≠ .cell) (hkind : scope.kind = .function)
    (hnames : ∀ y ∈ scope.names, y.2 = .local → scope.names.lookup y.1 = some .local) (hx : scope.names.lookup x = some .local) (hdbg : (relabel scope env).names.lookup (Str.ofString "__debug__") = none) (hs : ∀ x, foldedSetIterable iter env x = pure x)
    (h : EV D n L (eval iter env) S m fun xv S m => PyI D n L xv S m (CompK D n elt env scope cl x fun a S' m => Q (.ref a) S' m)) :
    EV D n L (eval (.ListComp elt [⟨.Name x px, iter, [], 0⟩] scope pos) env) S m Q := fun base A s o Bs X => by
  rw [eval_ListComp]
  refine wpAny_comprehension_free (use := none) rfl hs hclos hkind hnames (wpAny_mono (h base A s o Bs X) (fun xv s₁ z => ?_) fun _ _ e => e)
  obtain ⟨S₁, m₁, X₁, h₁⟩ := z
  refine wpAny_mono (h₁ xv rfl base A s₁ o Bs X₁) (fun it s₂ z => ?_) fun _ _ e => e
  clear h X h₁ X₁
  obtain ⟨S₂, m₂, X₂, I, rfl, dep, N, val, st, oI, K, hI, h0, hN, hself, J, hJ0, hdep, step, done⟩ := z
  refine comp_core (RR := fun acc C => compPost (model pw D.w) A (fun _ _ => False) none _ acc C) K fe hcell hkind hx hdbg o Bs X₂ hI h0 hN (fun A s E Q g q => hself I oI A s E Q h0 g q) hJ0 hdep step ?_
  rintro B C oC vs S' s' hC hn hSB hJ Y
  obtain ⟨mC, hn⟩ := hn
  exact ⟨mC, hn, fun h' hs' => ⟨_, m₂, At.thaw hC Y (fun b x hb e => hs'.extBut b x hb e) rfl rfl, done vs S' B hSB hJ⟩⟩

/-- y = [..] where the name is stored before the block lets its names go -/
theorem EX_assign_comp {elt iter : Expr} {x y : Str} {px py pos spos : Pos} {scope : Scope} {cl : List (Str × Addr)} (fe : FE L nm env) (hsw : swapsWith (.ListComp elt [⟨.Name x px, iter, [], 0⟩] scope pos) (some (.Name y py)) spos.line env = pure true)
    (hclos : closureFor scope env = pure cl) (hcell : ∀ y ∈ scope.names, y.2 ≠ .cell) (hkind : scope.kind = .function)
    (hnames : ∀ y ∈ scope.names, y.2 = .local → scope.names.lookup y.1 = some .local) (hx : scope.names.lookup x = some .local) (hdbg : (relabel scope env).names.lookup (Str.ofString "__debug__") = none) (hs : ∀ x, foldedSetIterable iter env x = pure x)
    (hy : nm.lookup y = some .local)
    (h : EV D n L (eval iter env) S m fun xv S m => PyI D n L xv S m (CompK D n elt env scope cl x fun a S' m => EX D n L (execs rest env) S' (m.set y (.ref a)) R)) :
    EX D n L (execs (.Assign [.Name y py] (.ListComp elt [⟨.Name x px, iter, [], 0⟩] scope pos) spos :: rest) env) S m R := by
  refine EX_cons fun base A s o Bs X => ?_
  rw [exec_Assign_Name_used _ _ _ _ hsw]
  refine wpAny_bind (wpAny_standAt (wpAny_bind ?_))
  show wpAny _ A (do let _ ← comprehension (.ListComp elt [⟨.Name x px, iter, [], 0⟩] scope pos) scope env _ (newList []) false (eval iter env) (some (assign (.Name y py) env))) _ _ s
  refine wpAny_bind (wpAny_mono (wpAny_comprehension_free (use := some (assign (.Name y py) env)) (Q := fun _ s' => ∃ S' m', At D base L S' m' s' ∧ EX D n L (execs rest env) S' m' R) rfl hs hclos hkind hnames
    (wpAny_mono (h base A s o Bs X) (fun xv s₁ z => ?_) fun _ _ e => e))
    (fun _ s' hq => wpAny_pure (wpAny_pure hq)) fun _ _ e => e)
  obtain ⟨S₁, m₁, X₁, h₁⟩ := z
  refine wpAny_mono (h₁ xv rfl base A s₁ o Bs X₁) (fun it s₂ z => ?_) fun _ _ e => e
  clear h X h₁ X₁
  obtain ⟨S₂, m₂, X₂, I, rfl, dep, N, val, st, oI, K, hI, h0, hN, hself, J, hJ0, hdep, step, done⟩ := z
  refine comp_core (RR := fun acc C => compPost (model pw D.w) A (fun _ _ => False) (some (assign (.Name y py) env)) _ acc C) K fe hcell hkind hx hdbg o Bs X₂ hI h0 hN (fun A s E Q g q => hself I oI A s E Q h0 g q) hJ0 hdep step ?_
  rintro B C oC vs S' s' hC hn hSB hJ Y
  obtain ⟨mC, hn⟩ := hn
  have Bs' : Base D (base.set C oC) := fun a ob e => by
    have e := Bs a ob e
    rw [OH.set_ne (by rintro rfl; rw [hC] at e; cases e)]; exact e
  show wpAny _ A (assign (.Name y py) env (.ref B)) _ _ _
  refine wpAny_mono (Asn_name (D := D) (n := n) (U := fun S'' m'' => S'' = S'.set B (.list vs) ∧ m'' = m₂.set y (.ref B)) fe hy ⟨rfl, rfl⟩ (.ref B) rfl _ A s' o Bs' Y) (fun _ s₃ z => ?_) fun _ _ e => e.elim
  obtain ⟨S₃, m₃, X₃, rfl, rfl⟩ := z
  have g1 := Y.toC.keep C oC (OH.set_same ..)
  have g2 := X₃.toC.keep C oC (OH.set_same ..)
  obtain ⟨o', es, ep, g3, r⟩ := hn
  rw [g1] at g3; cases g3
  exact ⟨mC, ⟨oC, es, ep, g2, r⟩, fun h' hs' => ⟨_, _, At.thaw hC X₃ (fun b x hb e => hs'.extBut b x hb e) rfl rfl, done vs S' B hSB hJ⟩⟩

/-! cells -/
theorem EV_cell {x : Str} {v : Value} {pos : Pos} {c : Addr} (fe : FE L nm env) (hl : nm.lookup x = some .cell) (hc : env.cells.lookup x = some c) (hS : S c = some (.cell (some v))) (h : Q v S m) :
    EV D n L (eval (.Name x pos) env) S m Q := fun base A s o Bs X => by
  obtain ⟨ob, ho, u, hd, hu⟩ := X.here hS
  obtain ⟨u', rfl, hu'⟩ : ∃ u', u = some u' ∧ er u' = v := by
    cases u with
    | none => cases hu
    | some u' => exact ⟨u', rfl, by simpa [erO] using hu⟩
  refine wpAny_Name (wpAny_loadName_cell fe.k (fe.kindOf hl) hc ⟨ob, ho, hd⟩ ⟨S, m, X, ?_⟩) (fe.ndbg hl)
  show Q (er u') S m
  rw [hu']; exact h
theorem clos_none {scope : Scope} (hfree : ∀ x ∈ scope.names, x.2 ≠ .free) : closureFor scope env = pure [] := closureFor_none hfree
end
end Mine
set_option maxRecDepth 100000
namespace Mine

noncomputable def locs : List Str → List Value → Loc
  | n :: ns, v :: vs => (locs ns vs).set n v
  | _, _ => fun _ => none
theorem binds_locs : ∀ (ns : List Str) (vs : List Value), binds (ns.zip vs) = locs ns vs
  | [], _ => by funext x; rfl
  | _ :: _, [] => by funext x; rfl
  | n :: ns, v :: vs => by
    have ih := binds_locs ns vs
    funext x
    have ih := congrFun ih x
    unfold binds at ih ⊢
    rw [List.zip_cons_cons, List.lookup_cons, locs, Loc.set]
    by_cases h : x = n
    · subst h; simp
    · have : (x == n) = false := by simpa using h
      rw [this]; simp only [h, if_false]; exact ih

/-- what is asked of a call's end -/
noncomputable def RetK (K : Value → PH → Prop) (fl : Flow) (S : PH) (_ : Loc) : Prop := K (match fl with | .ret v => v | _ => .none) S

section
variable {D : Wd} {n : Nat} {L : Addr} {S : PH} {m : Loc} {base : OH} {s s' : Shared}

theorem CallC_fn {f : Addr} {args : List Value} {names : List Str} {nm : List (Str × NameKind)} {Q : Value → PH → Prop} (F : FnOk D.w.params f names nm)
    (hl : (∀ x ∈ names, nm.lookup x = some .local) ∧ ∀ x ∈ nm, x.2 ≠ .cell) (hlen : names.length = args.length)
    (h : ∀ L env, FE L nm env → ∀ K : Value → PH → Prop, (∀ v S', Q v S' → K v S') → EX D n L (execs (bodyOf D.w.params f) env) S (locs names args) (RetK K)) : CallC D (n + 1) (.ref f) args S Q :=
  CallC_def F.at_ F.body F.co F.gen F.kind F.code F.gl F.bl F.nms F.dbg (fun a h => F.bind a (h.trans hlen.symm)) hlen F.nd hl.1 hl.2 (fun L env fe => by rw [binds_locs]; exact h L env fe Q fun _ _ h => h)

/-- a def of one parameter whose scope holds one cell -/
theorem CallC_cell {f : Addr} {v : Value} {p cx : Str} {nm : List (Str × NameKind)} {Q : Value → PH → Prop} (F : FnOk D.w.params f [p] nm)
    (hc : ∀ k, cellsFrom k nm [] = [(cx, k)]) (hp : (nm.lookup p = some .local) ∨ (nm.lookup p = some .cell ∧ p = cx))
    (h : ∀ L env c, FE L nm env → env.cells.lookup cx = some c → S c = none → ∀ T : Value → PH → Prop, (∀ v S', Q v S' → T v S') → EX D n L (execs (bodyOf D.w.params f) env) (S.set c (.cell (if p = cx then some v else none))) (if p = cx then fun _ => none else locs [p] [v]) (RetK T))
    (hpc : p = cx → nm.lookup p = some .cell) : CallC D (n + 1) (.ref f) [v] S Q := fun base A s args' o Bs X hv => by
  obtain ⟨v', rfl, hv'⟩ := map1 hv
  have K := D.KX.keeps (fun b o e => X.keep _ _ (Bs b o e))
  refine codeAny_call_function (by have := o.2.1; show _ < 1000; (first | lia | omega)) (K _ _ F.at_) rfl F.co F.gen F.body (codeRec_of K F.code) ?_
  rw [F.bind [v'] rfl]
  refine wpAny_pure ?_
  rw [F.clos]
  have hcells : ∀ k, cellsFrom k (fdOf D.w.params f).scope.names [] = [(cx, k)] := by rw [F.nms]; exact hc
  refine wpAny_newFunctionEnv_cells F.kind (fun x hx => ?_) fun env henv s₁ IC => ?_
  · have : x = (p, v') := by simpa using hx
    subst this
    rw [F.nms]
    rcases hp with hp | ⟨hp, e⟩
    · exact .inl hp
    · refine .inr ⟨hp, ?_⟩
      rw [hc, e]; simp
  · obtain ⟨⟨⟨h₁, tk, hs₁⟩, hns, hkeep, hfresh⟩, hcell, -, habove⟩ := IC
    have hL : env.locals = s.heap.objs.size := by rw [henv]; rfl
    have hcl : env.cells = [(cx, s.heap.objs.size + 1)] := by rw [henv]; exact hcells _
    have hkd : ∀ x, env.kindOf x = nm.lookup x := fun x => by rw [henv]; show (fdOf D.w.params f).scope.names.lookup x = _; rw [F.nms]
    have frL : s.heap.get? s.heap.objs.size = none := fresh_size s
    have frC : s.heap.get? (s.heap.objs.size + 1) = none := Heap.get?_none_of_le (Nat.le_succ _)
    refine ⟨D.nolimit.keeps fun b o e => hkeep _ _ (X.keep _ _ (Bs b o e)), ?_⟩
    obtain ⟨oc, hoc, hdc⟩ := hcell cx (s.heap.objs.size + 1) (by rw [hcl]; simp)
    rw [hL] at hns
    -- the cell's value and the locals
    have keyC : erO (bindC env.kindOf ([p].zip [v']) (fun _ => none) cx) = if p = cx then some v else none := by
      show erO ((if env.kindOf p = some .local then (fun _ => none) else fun y => if y = p then some v' else none : Str → Option Value) cx) = _
      rw [hkd]
      by_cases e : p = cx
      · have := hpc e
        subst e
        rw [this, if_neg (by simp), if_pos rfl]; simp [erO, hv']
      · rcases hp with hp | ⟨_, q⟩
        · rw [hp, if_pos rfl, if_neg e]; rfl
        · exact absurd q e
    have keyL : ∀ x, (bindL env.kindOf ([p].zip [v']) (fun _ => none) x).map er = (if p = cx then fun _ => none else locs [p] [v] : Loc) x := by
      intro x
      show ((if env.kindOf p = some .local then (fun y => if y = p then some v' else none) else fun _ => none : Str → Option Value) x).map er = _
      rw [hkd]
      by_cases e : p = cx
      · have := hpc e
        rw [this, if_neg (by simp), if_pos e]; rfl
      · rcases hp with hp | ⟨_, q⟩
        · rw [hp, if_pos rfl, if_neg e]; simp only [locs, Loc.set]
          by_cases q : x = p <;> simp [q, hv']
        · exact absurd q e
    have X1 : AtC D base (S.set (s.heap.objs.size + 1) (.cell (if p = cx then some v else none))) s₁ :=
      X.add (a := s.heap.objs.size + 1) (o := oc) hkeep (by rw [hs₁]) (by rw [hs₁]) frC hoc ⟨_, hdc, keyC⟩ rfl
    have frS : S (s.heap.objs.size + 1) = none := (X.fresh frC).1
    obtain ⟨oL, es, ep, g1, g2, g3, g4⟩ := hns
    have notL : ∀ a x, (S.set (s.heap.objs.size + 1) (.cell (if p = cx then some v else none))) a = some x → a ≠ s.heap.objs.size := by
      rintro a x e rfl
      rw [PH.set_ne (Nat.ne_of_lt (Nat.lt_succ_self _))] at e
      obtain ⟨ob, q, _⟩ := X.here _ x e
      rw [frL] at q; cases q
    have baseL : base s.heap.objs.size = none := (X.fresh frL).2
    have XA : At D base s.heap.objs.size (S.set (s.heap.objs.size + 1) (.cell (if p = cx then some v else none))) (if p = cx then fun _ => none else locs [p] [v]) s₁ := by
      refine ⟨baseL, oL, ⟨fun a o e => ?_, X1.here, fun a x e => ?_, ?_, X1.gens, X1.os⟩, es, ep, g2, g3, _, g4, keyL⟩
      · by_cases q : a = s.heap.objs.size
        · subst q; rw [OH.set_same] at e; cases e; exact g1
        · rw [OH.set_ne q] at e; exact X1.keep a o e
      · rw [OH.set_ne (notL a x e)]; exact X1.new a x e
      · obtain ⟨δ, hd⟩ := X.dicts
        refine ⟨δ, fun a C fs e => ?_⟩
        have q : a ≠ s.heap.objs.size + 1 := by rintro rfl; rw [PH.set_same] at e; cases e
        rw [PH.set_ne q] at e
        obtain ⟨x1, ⟨es, n, x2, x3⟩, x4, x5, x6⟩ := hd a C fs e
        have q1 : δ a ≠ s.heap.objs.size := by intro q; rw [q, frL] at x2; cases x2
        have q2 : δ a ≠ s.heap.objs.size + 1 := by intro q; rw [q, frC] at x2; cases x2
        refine ⟨hkeep _ _ x1, ⟨es, n, hkeep _ _ x2, x3⟩, by rw [OH.set_ne q1]; exact x4, by rw [PH.set_ne q2]; exact x5, fun a' C' fs' e' => x6 a' C' fs' ?_⟩
        have q3 : a' ≠ s.heap.objs.size + 1 := by rintro rfl; rw [PH.set_same] at e'; cases e'
        rwa [PH.set_ne q3] at e'
    have fe : FE s.heap.objs.size nm env := by
      rw [henv]
      exact ⟨F.kind, rfl, F.gl, F.bl, F.nms, F.dbg⟩
    refine codeAny_func (wpAny_mono (h s.heap.objs.size env (s.heap.objs.size + 1) fe (by rw [hcl]; simp) frS Q (fun _ _ h => h) base _ _ (o.deeper) Bs XA) (fun fl s' z => ?_) fun _ _ e => e.elim)
    obtain ⟨S', m', X', q⟩ := z
    refine ⟨_, S', rfl, X'.toC, ?_⟩
    cases fl <;> exact q
end
end Mine
set_option maxRecDepth 100000
namespace Mine
theorem pg_any {K : Frag} {C : Addr} {a b : Str} (h : plainGet K C a = true) : plainGet K C b = true := h

theorem co_KernelClause (P : Params) : ClsOk P 38 := ⟨by kernel_rfl, by kernel_rfl, by kernel_rfl, by kernel_rfl, by kernel_rfl⟩
@[simp] theorem ini_KernelClause (P : Params) : findIn (KK P) (.ref 38) "__init__" = some (some (.ref 35)) := by kernel_rfl
@[simp] theorem ity_KernelClause (P : Params) : typeIn (KK P) (.ref 35) = some (.type "function") := by kernel_rfl
@[simp] theorem fa_KernelClause_functor (P : Params) : findIn (KK P) (.ref 38) (Str.ofString "functor") = some none := by kernel_rfl
@[simp] theorem fa_KernelClause_args (P : Params) : findIn (KK P) (.ref 38) (Str.ofString "args") = some none := by kernel_rfl
@[simp] theorem fa_KernelClause_goals (P : Params) : findIn (KK P) (.ref 38) (Str.ofString "goals") = some none := by kernel_rfl
@[simp] theorem fa_KernelClause_count (P : Params) : findIn (KK P) (.ref 38) (Str.ofString "count") = some none := by kernel_rfl
theorem co_VarInfo (P : Params) : ClsOk P 132 := ⟨by kernel_rfl, by kernel_rfl, by kernel_rfl, by kernel_rfl, by kernel_rfl⟩
@[simp] theorem ini_VarInfo (P : Params) : findIn (KK P) (.ref 132) "__init__" = some (some (.ref 129)) := by kernel_rfl
@[simp] theorem ity_VarInfo (P : Params) : typeIn (KK P) (.ref 129) = some (.type "function") := by kernel_rfl
@[simp] theorem fa_VarInfo_var (P : Params) : findIn (KK P) (.ref 132) (Str.ofString "var") = some none := by kernel_rfl
@[simp] theorem fa_VarInfo_kind (P : Params) : findIn (KK P) (.ref 132) (Str.ofString "kind") = some none := by kernel_rfl
@[simp] theorem fa_VarInfo_slot (P : Params) : findIn (KK P) (.ref 132) (Str.ofString "slot") = some none := by kernel_rfl
@[simp] theorem fa_VarInfo_first (P : Params) : findIn (KK P) (.ref 132) (Str.ofString "first") = some none := by kernel_rfl
@[simp] theorem fa_VarInfo_unsafe (P : Params) : findIn (KK P) (.ref 132) (Str.ofString "unsafe") = some none := by kernel_rfl
@[simp] theorem fa_VarInfo_last_goal (P : Params) : findIn (KK P) (.ref 132) (Str.ofString "last_goal") = some none := by kernel_rfl
@[simp] theorem fa_VarInfo_count (P : Params) : findIn (KK P) (.ref 132) (Str.ofString "count") = some none := by kernel_rfl
@[simp] theorem fa_VarInfo_first_chunk (P : Params) : findIn (KK P) (.ref 132) (Str.ofString "first_chunk") = some none := by kernel_rfl
@[simp] theorem fa_VarInfo_last_chunk (P : Params) : findIn (KK P) (.ref 132) (Str.ofString "last_chunk") = some none := by kernel_rfl
theorem co_ClausePlan (P : Params) : ClsOk P 188 := ⟨by kernel_rfl, by kernel_rfl, by kernel_rfl, by kernel_rfl, by kernel_rfl⟩
@[simp] theorem ini_ClausePlan (P : Params) : findIn (KK P) (.ref 188) "__init__" = some (some (.ref 150)) := by kernel_rfl
@[simp] theorem ity_ClausePlan (P : Params) : typeIn (KK P) (.ref 150) = some (.type "function") := by kernel_rfl
@[simp] theorem fa_ClausePlan_infos (P : Params) : findIn (KK P) (.ref 188) (Str.ofString "infos") = some none := by kernel_rfl
@[simp] theorem fa_ClausePlan_chunks (P : Params) : findIn (KK P) (.ref 188) (Str.ofString "chunks") = some none := by kernel_rfl
@[simp] theorem fa_ClausePlan_needs_env (P : Params) : findIn (KK P) (.ref 188) (Str.ofString "needs_env") = some none := by kernel_rfl
@[simp] theorem fa_ClausePlan_env_size (P : Params) : findIn (KK P) (.ref 188) (Str.ofString "env_size") = some none := by kernel_rfl
@[simp] theorem fa_ClausePlan_live_after (P : Params) : findIn (KK P) (.ref 188) (Str.ofString "live_after") = some none := by kernel_rfl
theorem co_Survey (P : Params) : ClsOk P 230 := ⟨by kernel_rfl, by kernel_rfl, by kernel_rfl, by kernel_rfl, by kernel_rfl⟩
@[simp] theorem ini_Survey (P : Params) : findIn (KK P) (.ref 230) "__init__" = some (some (.ref 213)) := by kernel_rfl
@[simp] theorem ity_Survey (P : Params) : typeIn (KK P) (.ref 213) = some (.type "function") := by kernel_rfl
@[simp] theorem fa_Survey_infos (P : Params) : findIn (KK P) (.ref 230) (Str.ofString "infos") = some none := by kernel_rfl
@[simp] theorem fm_Survey_meet (P : Params) : findIn (KK P) (.ref 230) (Str.ofString "meet") = some (some (.ref 220)) := by kernel_rfl
@[simp] theorem ff_Survey_meet (P : Params) : isFn (KK P) (.ref 220) = true := by kernel_rfl
theorem kp_Survey_meet (P : Params) : keepIn (KK P) (.ref 220) = true := by kernel_rfl
@[simp] theorem fm_Survey_terms (P : Params) : findIn (KK P) (.ref 230) (Str.ofString "terms") = some (some (.ref 227)) := by kernel_rfl
@[simp] theorem ff_Survey_terms (P : Params) : isFn (KK P) (.ref 227) = true := by kernel_rfl
theorem kp_Survey_terms (P : Params) : keepIn (KK P) (.ref 227) = true := by kernel_rfl

theorem cok_38 (P : Params) : ClsOk P 38 := co_KernelClause P
theorem cok_132 (P : Params) : ClsOk P 132 := co_VarInfo P
theorem cok_188 (P : Params) : ClsOk P 188 := co_ClausePlan P
theorem cok_230 (P : Params) : ClsOk P 230 := co_Survey P
end Mine
set_option maxRecDepth 100000
namespace Mine

noncomputable def isBm (x : Str) : Bool := x == Str.ofString "append" || x == Str.ofString "pop" || x == Str.ofString "insert" || x == Str.ofString "extend" || x == Str.ofString "reverse" || x == Str.ofString "setdefault" || x == Str.ofString "get"
noncomputable def isOm (x : Str) : Bool := x == Str.ofString "meet" || x == Str.ofString "terms"

section
variable {D : Wd} {n : Nat} {L : Addr} {S : PH} {m : Loc} {nm : List (Str × NameKind)} {env : Env}
variable {Q : Value → PH → Loc → Prop} {B : Bool → PH → Loc → Prop} {R : Flow → PH → Loc → Prop} {U : Unit → PH → Loc → Prop}

theorem EV_bm {ob : Expr} {name : Str} {apos pos : Pos} {args : List Expr} {pl : Sem Bool} (hb : isBm name = true)
    (h : EV D n L (eval ob env) S m fun o S m => Met D n L name o S m fun f first S m => ∃ id, f = .builtin id ∧ Args D n L env pos args S m fun vs S m => CallW D n L (.builtin id) (first ++ vs) S m Q)
    (he : eval (.Call (.Attribute ob name apos) args [] pos) env = (do
      let ov ← eval ob env
      standAt apos.atName
      let (f, first) ← holding [ov] (getMethod ov name pl)
      callWith pos f first (backTo pos (starEach args env)) []))
    (hargs : args = [] ∨ ∃ a r, args = a :: r ∧ starEach (a :: r) env = (false, eval a env) :: starEach r env ∧ (backTo pos (starEach r env)).any (·.1) = false) :
    EV D n L (eval (.Call (.Attribute ob name apos) args [] pos) env) S m Q := EV_method h he hargs
theorem EV_om {ob : Expr} {name : Str} {apos pos : Pos} {args : List Expr} {pl : Sem Bool} (hb : isOm name = true)
    (h : EV D n L (eval ob env) S m fun o S m => Met D n L name o S m fun g first S m => ∃ f, g = .ref f ∧ keepIn (KK D.w.params) (.ref f) = true ∧ Args D n L env pos args S m fun vs S m => CallW D n L (.ref f) (first ++ vs) S m Q)
    (he : eval (.Call (.Attribute ob name apos) args [] pos) env = (do
      let ov ← eval ob env
      standAt apos.atName
      let (f, first) ← holding [ov] (getMethod ov name pl)
      callWith pos f first (backTo pos (starEach args env)) []))
    (hargs : ∃ a r, args = a :: r ∧ starEach (a :: r) env = (false, eval a env) :: starEach r env ∧ (backTo pos (starEach r env)).any (·.1) = false) :
    EV D n L (eval (.Call (.Attribute ob name apos) args [] pos) env) S m Q := EV_method_own h he hargs
theorem bm_go {i : String} {P : String → Prop} (h : P i) : ∃ id, Value.builtin i = .builtin id ∧ P id := ⟨i, rfl, h⟩
theorem om_go {a : Addr} {P : Addr → Prop} (hk : keepIn (KK D.w.params) (.ref a) = true) (h : P a) : ∃ f, Value.ref a = .ref f ∧ keepIn (KK D.w.params) (.ref f) = true ∧ P f := ⟨a, rfl, hk, h⟩

theorem app_1 {f : Value} {a : Value} (h : CallW D n L f [a] S m Q) : CallW D n L f ([a] ++ []) S m Q := h
theorem app_2 {f : Value} {a b : Value} (h : CallW D n L f [a, b] S m Q) : CallW D n L f ([a] ++ [b]) S m Q := h
theorem app_3 {f : Value} {a b c : Value} (h : CallW D n L f [a, b, c] S m Q) : CallW D n L f ([a] ++ [b, c]) S m Q := h
theorem app_5 {f : Value} {a b c d : Value} (h : CallW D n L f [a, b, c, d] S m Q) : CallW D n L f ([a] ++ [b, c, d]) S m Q := h
theorem app_6 {f : Value} {a b c d e g : Value} (h : CallW D n L f [a, b, c, d, e, g] S m Q) : CallW D n L f ([a] ++ [b, c, d, e, g]) S m Q := h
theorem app_5' {f : Value} {a b c d e : Value} (h : CallW D n L f [a, b, c, d, e] S m Q) : CallW D n L f ([a] ++ [b, c, d, e]) S m Q := h

theorem EV_drop {t : Sem Value} {S' : PH} (h : EV D n L t S' m Q) (k : ∀ a x, S' a = some x → S a = some x) : EV D n L t S m Q := W_drop h k
theorem EX_drop {t : Sem Flow} {S' : PH} (h : EX D n L t S' m R) (k : ∀ a x, S' a = some x → S a = some x) : EX D n L t S m R := W_drop h k
theorem snoc_cases {α : Type} (l : List α) : l = [] ∨ ∃ ds d, l = ds ++ [d] := by
  rcases List.eq_nil_or_concat l with h | ⟨ds, d, h⟩
  · exact .inl h
  · exact .inr ⟨ds, d, by rw [h, List.concat_eq_append]⟩
theorem ite_t {c : Bool} {P Q : Prop} (hc : c = true) (h : P) : if c = true then P else Q := by rw [if_pos hc]; exact h
theorem ite_f {c : Bool} {P Q : Prop} (hc : c = false) (h : Q) : if c = true then P else Q := by rw [if_neg (by rw [hc]; decide)]; exact h
/-- weaken what is known after -/
theorem W_shrink {α : Type} {t : Sem α} {P : α → PH → Loc → Prop} (h : W D n L t S m fun a S' m' => ∃ S'', (∀ b x, S'' b = some x → S' b = some x) ∧ P a S'' m') : W D n L t S m P :=
  fun base A s o b x => wpAny_mono (h base A s o b x) (fun a s' ⟨S', m', x', S'', k, q⟩ => ⟨S'', m', x'.mono k, q⟩) fun _ _ e => e
theorem CallC_mono {f : Value} {args : List Value} {P P' : Value → PH → Prop} (h : CallC D n f args S P) (k : ∀ v S', P v S' → P' v S') : CallC D n f args S P' :=
  fun base A s args' o b x e => codeAny_mono (h base A s args' o b x e) fun r s' ⟨v, S', a, c, q⟩ => ⟨v, S', a, c, k _ _ q⟩
theorem CallC_shrink {f : Value} {args : List Value} {P : Value → PH → Prop} (h : CallC D n f args S fun v S' => ∃ S'', (∀ b x, S'' b = some x → S' b = some x) ∧ P v S'') : CallC D n f args S P :=
  fun base A s args' o b x e => codeAny_mono (h base A s args' o b x e) fun r s' ⟨v, S', a, c, S'', k, q⟩ => ⟨v, S'', a, c.mono k, q⟩
theorem CallC_drop {f : Value} {args : List Value} {S₁ : PH} {P : Value → PH → Prop} (h : CallC D n f args S₁ P) (k : ∀ a x, S₁ a = some x → S a = some x) : CallC D n f args S P :=
  fun base A s args' o b x e => h base A s args' o b (x.mono k) e
theorem Ok.up {n k : Nat} {A : Around} (o : Ok (n + k) A) : Ok n A := o.mono
theorem CallC_up {f : Value} {args : List Value} {k : Nat} {P : Value → PH → Prop} (h : CallC D n f args S P) : CallC D (n + k) f args S P :=
  fun base A s args' o b x e => h base A s args' o.mono b x e
theorem CallC_le {f : Value} {args : List Value} {k : Nat} {P : Value → PH → Prop} (h : CallC D n f args S P) (hk : n ≤ k) : CallC D k f args S P := by
  obtain ⟨j, rfl⟩ := Nat.exists_eq_add_of_le hk
  exact CallC_up h
end
end Mine
set_option maxRecDepth 100000
namespace Mine

section
variable {D : Wd} {n : Nat} {L : Addr} {S : PH} {m : Loc} {nm : List (Str × NameKind)} {env : Env} {target : Expr} {body rest : List Stmt}
variable {Q : Value → PH → Loc → Prop} {R : Flow → PH → Loc → Prop} {J : PH → Loc → Prop}
theorem Turn_next (h : J S m) : Turn D n L env rest R J .next S m := h
theorem Turn_cont (h : J S m) : Turn D n L env rest R J .cont S m := h
theorem Turn_brk (h : EX D n L (execs rest env) S m R) : Turn D n L env rest R J .brk S m := h
theorem Turn_ret {v : Value} (h : R (.ret v) S m) : Turn D n L env rest R J (.ret v) S m := h
theorem Stp_go {v : Value} (h : Asn D n L env target v S m fun S m => EX D n L (execs body env) S m (Turn D n L env rest R J)) : Stp D n L env target body rest R J v S m := h

/-- what is asked after, as a name -/
theorem EX_gen {t : Sem Flow} (h : ∀ T : Flow → PH → Loc → Prop, (∀ f S m, R f S m → T f S m) → EX D n L t S m T) : EX D n L t S m R := h R fun _ _ _ h => h
theorem EV_gen {t : Sem Value} (h : ∀ T : Value → PH → Loc → Prop, (∀ f S m, Q f S m → T f S m) → EV D n L t S m T) : EV D n L t S m Q := h Q fun _ _ _ h => h
theorem Sub_list_nat {value slice : Expr} {t : Addr} {vs : List Value} {i : Nat} {v : Value} (ht : S t = some (.list vs)) (hi : i < 1000000) (hv : vs[i]? = some v) (h : Q v S m)
    (hs : ∀ u, subscripted slice false (.ref t) (.int (i : Int) u) = operate [.ref t, .int (i : Int) u] (getItem (.ref t) (.int (i : Int) u))) : Sub D n L value slice (.ref t) (.int (i : Int) 0) S m Q :=
  Sub_list ht (by (first | lia | omega)) (by (first | lia | omega)) (by simpa using hv) h hs
/-- both branches of an if come to P -/
theorem join_if {c : Bool} {b1 b2 : List Stmt} (P : PH → Loc → Prop) (h1 : ∀ T : Flow → PH → Loc → Prop, (∀ S m, P S m → T .next S m) → c = true → EX D n L (execs b1 env) S m T) (h2 : ∀ T : Flow → PH → Loc → Prop, (∀ S m, P S m → T .next S m) → c = false → EX D n L (execs b2 env) S m T)
    (h3 : ∀ S m, P S m → EX D n L (execs rest env) S m R) : if c = true then EX D n L (execs b1 env) S m (Seq D n L env rest R) else EX D n L (execs b2 env) S m (Seq D n L env rest R) := by
  cases c with
  | true => exact h1 _ (fun S m h => h3 S m h) rfl
  | false => exact h2 _ (fun S m h => h3 S m h) rfl
/-- c and e, told by v -/
theorem at_and1 {c : Bool} {e : Expr} {B : Bool → PH → Loc → Prop} (v : Bool) (h1 : c = true → BT D n L env e S m fun b S' m' => b = v ∧ S' = S ∧ m' = m) (h2 : c = false → v = false) (h : B v S m) : if c = true then AT D n L env .And [e] S m B else B false S m := by
  cases c with
  | true =>
    rw [if_pos rfl]
    refine AT_and (W_mono (h1 rfl) fun b S' m' ⟨e1, e2, e3⟩ => ?_)
    subst e1 e2 e3
    cases b with
    | true => rw [if_pos rfl]; exact AT_and_nil h
    | false => rw [if_neg (by decide)]; exact h
  | false => rw [if_neg (by decide)]; rw [h2 rfl] at h; exact h
/-- c and e and e', told by w and v -/
theorem at_and2 {c : Bool} {e e' : Expr} {B : Bool → PH → Loc → Prop} (w v : Bool) (h1 : c = true → BT D n L env e S m fun b S' m' => b = w ∧ S' = S ∧ m' = m) (h2 : c = true → w = true → BT D n L env e' S m fun b S' m' => b = v ∧ S' = S ∧ m' = m)
    (h3 : c = false ∨ w = false → v = false) (h : B v S m) : if c = true then AT D n L env .And [e, e'] S m B else B false S m := by
  cases c with
  | true =>
    rw [if_pos rfl]
    refine AT_and (W_mono (h1 rfl) fun b S' m' z => ?_)
    obtain ⟨e1, e2, e3⟩ := z
    subst e1 e2 e3
    exact at_and1 v (fun hw => h2 rfl hw) (fun hw => h3 (.inr hw)) h
  | false => rw [if_neg (by decide), ← h3 (.inl rfl)]; exact h
theorem CallW_do {f : Value} {args : List Value} {P : Value → PH → Prop} (h : CallC D n f args S P) (k : ∀ v S', P v S' → Q v S' m) : CallW D n L f args S m Q := CallW_own (CallC_mono h k)

theorem forK_range {b : Int} (N : Nat) (J : Nat → PH → Loc → Prop) (hb : b = (N : Int)) (hN : N ≤ 1000000) (h0 : J 0 S m)
    (step : ∀ i S m T, (∀ S m, J (i + 1) S m → T S m) → i < N → J i S m → Stp D n L env target body rest R T (.int (i : Int) 0) S m) (done : ∀ S m, J N S m → EX D n L (execs rest env) S m R) :
    CallW D n L (.type "range") [.int b 0] S m (fun x S m => PyI D n L x S m (ForK D n L env target body rest R)) := by
  subst hb
  refine CallW_range1 fun r o hr ho => ?_
  refine PyI_range (N := N) (PH.set_same ..) ho (by (first | lia | omega)) (by (first | lia | omega)) (by (first | lia | omega)) (by (first | lia | omega)) (by (first | lia | omega)) fun I oI hI hst => ?_
  have hI' : S I = none := by
    cases q : S I with
    | none => rfl
    | some x => rw [PH.keep_new hr q] at hI; cases hI
  refine ⟨fun _ => True, N, fun i => .int (0 + (i : Int)) 0, _, oI, iterRange 0 N, PH.set_same .., hst, fun i S' m' => ∃ S'', (∀ a x, S'' a = some x → S' a = some x) ∧ J i S'' m', ⟨S, fun a x e => ?_, h0⟩, fun _ _ _ _ => trivial, ?_, ?_⟩
  · rw [erase_set hI]; exact PH.keep_new hr e
  · rintro i S' m' hi ⟨S'', k, hJ⟩
    intro v' hv
    have hv : er v' = .int (0 + (i : Int)) 0 := hv
    rw [Int.zero_add] at hv
    exact W_drop (step i S'' m' (fun S m => ∃ S'', (∀ a x, S'' a = some x → S a = some x) ∧ J (i + 1) S'' m) (fun S m h => ⟨S, fun _ _ e => e, h⟩) hi hJ v' hv) k
  · rintro S' m' ⟨S'', k, hJ⟩
    exact W_drop (done S'' m' hJ) k

theorem forK_list {l : Addr} {vs : List Value} (J : Nat → PH → Loc → Prop) (hl : S l = some (.list vs)) (h0 : J 0 S m) (hdep : ∀ i S m, J i S m → S l = some (.list vs))
    (step : ∀ i S m T, (∀ S m, J (i + 1) S m → T S m) → ∀ (h : i < vs.length), J i S m → Stp D n L env target body rest R T vs[i] S m) (done : ∀ S m, J vs.length S m → EX D n L (execs rest env) S m R) :
    PyI D n L (.ref l) S m (ForK D n L env target body rest R) := by
  refine PyI_list hl fun I oI hI hst => ?_
  refine ⟨_, _, _, _, oI, iterList l vs, PH.set_same .., hst, J, by rw [erase_set hI]; exact h0, hdep, fun i S m hi hJ => ?_, done⟩
  have e : (vs[i]?).getD .none = vs[i] := by simp [hi]
  rw [e]; exact step i S m _ (fun _ _ h => h) hi hJ
theorem forK_tup {l : Addr} {vs : List Value} (J : Nat → PH → Loc → Prop) (hl : S l = some (.tup vs)) (h0 : J 0 S m) (hdep : ∀ i S m, J i S m → S l = some (.tup vs))
    (step : ∀ i S m T, (∀ S m, J (i + 1) S m → T S m) → ∀ (h : i < vs.length), J i S m → Stp D n L env target body rest R T vs[i] S m) (done : ∀ S m, J vs.length S m → EX D n L (execs rest env) S m R) :
    PyI D n L (.ref l) S m (ForK D n L env target body rest R) := by
  refine PyI_tup hl fun I oI hI hst => ?_
  refine ⟨_, _, _, _, oI, iterTup l vs, PH.set_same .., hst, J, by rw [erase_set hI]; exact h0, hdep, fun i S m hi hJ => ?_, done⟩
  have e : (vs[i]?).getD .none = vs[i] := by simp [hi]
  rw [e]; exact step i S m _ (fun _ _ h => h) hi hJ
theorem forK_dict {d : Addr} {kvs : List (Int × Value)} {ep : Nat} (J : Nat → PH → Loc → Prop) (hl : S d = some (.dict kvs ep)) (h0 : J 0 S m) (hdep : ∀ i S m, J i S m → S d = some (.dict kvs ep))
    (step : ∀ i S m T, (∀ S m, J (i + 1) S m → T S m) → ∀ (h : i < kvs.length), J i S m → Stp D n L env target body rest R T (.int kvs[i].1 0) S m) (done : ∀ S m, J kvs.length S m → EX D n L (execs rest env) S m R) :
    PyI D n L (.ref d) S m (ForK D n L env target body rest R) := by
  refine PyI_dict hl fun I oI hI hst => ?_
  refine ⟨_, _, _, _, oI, iterDict d kvs ep, PH.set_same .., hst, J, by rw [erase_set hI]; exact h0, hdep, fun i S m hi hJ => ?_, done⟩
  have e : ((kvs[i]?).map fun p => Value.int p.1 0).getD .none = .int kvs[i].1 0 := by simp [hi]
  rw [e]; exact step i S m _ (fun _ _ h => h) hi hJ
/-- for x in reversed(t) -/
theorem forK_rev {t : Addr} {vs : List Value} (J : Nat → PH → Loc → Prop) (ht : S t = some (.tup vs)) (hz : vs.length ≤ 1000) (h0 : J 0 S m) (hdep : ∀ i S m, J i S m → S t = some (.tup vs))
    (step : ∀ i S m T, (∀ S m, J (i + 1) S m → T S m) → ∀ (h : i < vs.reverse.length), J i S m → Stp D n L env target body rest R T vs.reverse[i] S m) (done : ∀ S m, J vs.length S m → EX D n L (execs rest env) S m R) :
    CallW D n L (.type "reversed") [.ref t] S m (fun x S m => PyI D n L x S m (ForK D n L env target body rest R)) := by
  refine CallW_reversed_tup ht hz fun r o hr ho => ?_
  refine PyI_rev (PH.set_same ..) ho ?_
  refine ⟨_, _, _, _, o, iterRev t vs hz, PH.set_same .., ho, J, by rw [erase_set hr]; exact h0, hdep, fun i S m hi hJ => ?_, done⟩
  have hi' : i < vs.reverse.length := by simpa using hi
  have e : (vs.reverse[i]?).getD .none = vs.reverse[i] := by rw [List.getElem?_eq_getElem hi']; rfl
  show Stp D n L env target body rest R (J (i + 1)) ((vs.reverse[i]?).getD .none) S m
  rw [e]; exact step i S m _ (fun _ _ h => h) hi' hJ
end
end Mine
namespace Mine
/-! a variable's info and a plan, as fields -/
structure Vi where
  var : Int
  kind : Str
  slot : Int
  first : Str
  uns : Bool
  last : Int
  count : Int
  fc : Int
  lc : Int
noncomputable def Vi.fs (v : Vi) : List (Str × Value) := [(Str.ofString "var", .int v.var 0), (Str.ofString "kind", .str v.kind 0), (Str.ofString "slot", .int v.slot 0), (Str.ofString "first", .str v.first 0), (Str.ofString "unsafe", .bool v.uns),
  (Str.ofString "last_goal", .int v.last 0), (Str.ofString "count", .int v.count 0), (Str.ofString "first_chunk", .int v.fc 0), (Str.ofString "last_chunk", .int v.lc 0)]

noncomputable def pfs (di lc : Addr) (needs : Bool) (env : Int) (ll : Addr) : List (Str × Value) := [(Str.ofString "infos", .ref di), (Str.ofString "chunks", .ref lc), (Str.ofString "needs_env", .bool needs), (Str.ofString "env_size", .int env 0), (Str.ofString "live_after", .ref ll)]
theorem fput_var (v : Vi) (c : Int) : fput v.fs (Str.ofString "var") (.int c 0) = { v with var := c }.fs := by with_unfolding_all rfl
theorem fput_kind (v : Vi) (c : Str) : fput v.fs (Str.ofString "kind") (.str c 0) = { v with kind := c }.fs := by with_unfolding_all rfl
theorem fput_slot (v : Vi) (c : Int) : fput v.fs (Str.ofString "slot") (.int c 0) = { v with slot := c }.fs := by with_unfolding_all rfl
theorem fput_first (v : Vi) (c : Str) : fput v.fs (Str.ofString "first") (.str c 0) = { v with first := c }.fs := by with_unfolding_all rfl
theorem fput_uns (v : Vi) (c : Bool) : fput v.fs (Str.ofString "unsafe") (.bool c) = { v with uns := c }.fs := by with_unfolding_all rfl
theorem fput_last (v : Vi) (c : Int) : fput v.fs (Str.ofString "last_goal") (.int c 0) = { v with last := c }.fs := by with_unfolding_all rfl
theorem fput_count (v : Vi) (c : Int) : fput v.fs (Str.ofString "count") (.int c 0) = { v with count := c }.fs := by with_unfolding_all rfl
theorem fput_fc (v : Vi) (c : Int) : fput v.fs (Str.ofString "first_chunk") (.int c 0) = { v with fc := c }.fs := by with_unfolding_all rfl
theorem fput_lc (v : Vi) (c : Int) : fput v.fs (Str.ofString "last_chunk") (.int c 0) = { v with lc := c }.fs := by with_unfolding_all rfl
theorem fput_plive (di lc ll : Addr) (needs : Bool) (ev c : Int) : fput (pfs di lc needs ev ll) (Str.ofString "env_size") (.int c 0) = pfs di lc needs c ll := by with_unfolding_all rfl
theorem fput_pneeds (di lc ll : Addr) (needs b : Bool) (ev : Int) : fput (pfs di lc needs ev ll) (Str.ofString "needs_env") (.bool b) = pfs di lc b ev ll := by with_unfolding_all rfl
end Mine
namespace Mine
set_option compiler.extract_closed false
-- the walk's own lines: tb_rel looks a local or an object up; tb_start is one step
local macro_rules | `(tactic| tb_rel) => `(tactic| first
  | with_reducible assumption
  | with_reducible exact Loc.set_same _ _ _
  | with_reducible exact PH.set_same _ _ _
  | ((with_reducible refine (Loc.set_ne ?hneq).trans ?hrest); (case hneq => first | assumption | decide); (case hrest => tb_rel))
  | ((with_reducible refine PH.keep_new ?hnone ?hrest); (case hnone => with_reducible assumption); (case hrest => tb_rel))
  | ((with_reducible refine PH.keep_diff ?hwas ?hrest ?hdiff); (case hwas => with_reducible assumption); (case hrest => tb_rel); (case hdiff => first | (intro h; injection h; done) | simp))
  | ((with_reducible refine (PH.set_ne ?hneq).trans ?hrest); (case hneq => first | with_reducible assumption | (apply Ne.symm; with_reducible assumption)); (case hrest => tb_rel)))
local macro_rules | `(tactic| tb_start) => `(tactic| first
  | ((with_reducible refine' EV_local ?a ?b ?c ?_); (case a => with_reducible assumption); (case b => decide); (case c => tb_rel))
  | ((with_reducible refine' EV_cell ?a ?b ?c ?d ?_); (case a => with_reducible assumption); (case b => decide); (case c => with_reducible assumption); (case d => tb_rel))
  | (with_reducible first | refine' EV_int ?_ | refine' EV_str ?_ | refine' EV_bool ?_ | refine' EV_none ?_ | refine' EV_bin ?_)
  | ((with_reducible refine' EV_cmp ?a ?_); (case a => with_unfolding_all rfl))
  | (with_reducible first | refine' EV_una ?_ | refine' EV_ifexp ?_ | refine' EV_or2 ?_ | refine' EV_and2 ?_ | refine' EV_sub ?_)
  | ((with_reducible refine' EV_attr ?_ ?a); (case a => with_unfolding_all rfl))
  | (with_reducible first | refine' EV_tuple ?_ | refine' EV_list ?_ | refine' EV_dict ?_ | refine' Args_nil ?_)
  | ((with_reducible refine' Args_cons ?_ ?a); (case a => with_unfolding_all rfl))
  | ((with_reducible refine' BT_cmp ?a ?_); (case a => with_unfolding_all rfl))
  | (with_reducible first | refine' BT_not ?_ | refine' BT_op ?_ | refine' AT_and ?_ | refine' AT_or ?_ | refine' AT_and_nil ?_ | refine' AT_or_nil ?_)
  | ((with_reducible refine' BT_val ?_ ?a); (case a => with_unfolding_all rfl))
  | with_reducible refine' Bin_add ?_
  | ((with_reducible refine' Bin_add_str ?a ?b ?_); (case a => first | (first | lia | omega) | decide); (case b => first | (first | lia | omega) | decide))
  | with_reducible refine' Bin_sub ?_
  | ((with_reducible refine' EX_assign_tup ?_ ?a ?b); (case a => with_unfolding_all rfl); (case b => with_unfolding_all rfl))
  | ((with_reducible refine' Asn_tup2 ?a ?b ?c ?d ?_); (case a => with_reducible assumption); (case b => decide); (case c => decide); (case d => tb_rel))
  | ((with_reducible refine' Asn_tup3 ?a ?b ?c ?d ?e ?_); (case a => with_reducible assumption); (case b => decide); (case c => decide); (case d => decide); (case e => tb_rel))
  | (with_reducible first | refine' Inp_add ?_ | refine' Inp_sub ?_ | refine' Uny_neg ?_)
  | ((with_reducible refine' EV_bm (pl := _) ?hb ?h ?he ?ha); (case hb => with_unfolding_all rfl); (case he => with_unfolding_all rfl); (case ha => first | exact .inl rfl | exact .inr ⟨_, _, rfl, rfl, rfl⟩))
  | ((with_reducible refine' EV_om (pl := _) ?hb ?h ?he ?ha); (case hb => with_unfolding_all rfl); (case he => with_unfolding_all rfl); (case ha => exact ⟨_, _, rfl, rfl, rfl⟩))
  | ((with_reducible refine' EV_call_fn ?a ?b ?c ?d ?e ?g); (case a => with_reducible assumption); (case b => decide); (case c => with_reducible first | exact gl_ClausePlan _ | exact gl_KernelClause _ | exact gl_Survey _ | exact gl_VarInfo _ | exact gl_law_change _ | exact gl_law_coin _ | exact gl_law_coins _ | exact gl_law_say _ | exact gl_law_thing _ | exact gl_law_things _ | exact gl_check_goals _ | exact gl_check_plan _ | exact gl_check_variable _ | exact gl_chunk_numbers _ | exact gl_classify _ | exact gl_crosses_call _ | exact gl_first_word _ | exact gl_goal_special _ | exact gl_goal_terms _ | exact gl_kind_of _ | exact gl_occurrences _ | exact gl_places_of _ | exact gl_slot_order _ | exact gl_variables _ | exact gl_variables_of _); (case d => with_reducible first | exact kp_law_coins _ | exact kp_law_coin _ | exact kp_law_thing _ | exact kp_law_things _ | exact kp_law_goal _ | exact kp_law_say _ | exact kp_law_change _ | exact kp_classify _ | exact kp_slot_order _ | exact kp_kind_of _ | exact kp_chunk_numbers _ | exact kp_ClausePlan _ | exact kp_VarInfo _ | exact kp_KernelClause _ | exact kp_occurrences _ | exact kp_variables_of _ | exact kp_variables _ | exact kp_check_goals _ | exact kp_first_word _ | exact kp_check_variable _ | exact kp_check_plan _ | exact kp_crosses_call _ | exact kp_places_of _ | exact kp_goal_special _ | exact kp_goal_terms _); (case g => exact ⟨_, _, rfl, rfl, rfl⟩))
  | ((with_reducible refine' EV_call_cls0 ?a ?b ?c ?d ?e); (case a => with_reducible assumption); (case b => decide); (case c => with_reducible exact gl_Survey _); (case d => with_reducible exact kp_Survey _))
  | ((with_reducible refine' ite_t ?a ?_); (case a => decide))
  | ((with_reducible refine' ite_f ?a ?_); (case a => decide))
  | with_reducible refine' bm_go ?_
  | ((with_reducible refine' om_go ?a ?_); (case a => with_reducible first | exact kp_Survey_meet _ | exact kp_Survey_terms _))
  | (with_reducible first | refine' app_1 ?_ | refine' app_2 ?_ | refine' app_3 ?_ | refine' app_5' ?_ | refine' app_6 ?_)
  | ((with_reducible refine' Met_append ?a ?_); (case a => tb_rel))
  | ((with_reducible refine' Met_insert ?a ?_); (case a => tb_rel))
  | ((with_reducible refine' Met_extend ?a ?_); (case a => tb_rel))
  | ((with_reducible refine' Met_reverse ?a ?_); (case a => tb_rel))
  | ((with_reducible refine' Met_setdefault ?a ?_); (case a => tb_rel))
  | ((with_reducible refine' Met_dget ?a ?_); (case a => tb_rel))
  | ((with_reducible refine' Met_pop ?a ?_); (case a => tb_rel))
  | ((with_reducible refine' Met_dpop ?a ?_); (case a => tb_rel))
  | ((with_reducible refine' CallW_append ?a ?b ?_); (case a => tb_rel); (case b => first | (first | lia | omega) | (simp; (first | lia | omega))))
  | ((with_reducible refine' GetA_inst ?a ?b ?c ?d ?e ?_); (case a => tb_rel); (case b => with_reducible first | exact cok_38 _ | exact cok_132 _ | exact cok_188 _ | exact cok_230 _); (case c => simp; done); (case d => with_unfolding_all rfl); (case e => first | rfl | simp [handedIn]))
  | ((with_reducible refine' SetA_inst' ?a ?b ?c ?d ?e ?_); (case a => tb_rel); (case b => with_reducible first | exact cok_38 _ | exact cok_132 _ | exact cok_188 _ | exact cok_230 _); (case c => simp; done); (case d => first | (simp; done) | decide | (simp [Vi.fs, pfs]; done)); (case e => first | with_reducible exact fput_var _ _ | with_reducible exact fput_kind _ _ | with_reducible exact fput_slot _ _ | with_reducible exact fput_first _ _ | with_reducible exact fput_uns _ _ | with_reducible exact fput_last _ _ | with_reducible exact fput_count _ _ | with_reducible exact fput_fc _ _ | with_reducible exact fput_lc _ _ | with_reducible exact fput_live _ _ _ _ _ _ | (simp (decide := true) only [fput, if_true, if_false, ↓reduceIte]; try rfl)))
  | ((with_reducible refine' Sub_tup ?a ?b ?c ?d ?_ ?e); (case a => tb_rel); (case b => first | decide | (first | lia | omega)); (case c => first | decide | (first | lia | omega)); (case d => rfl); (case e => intro _; with_unfolding_all rfl))
  | (with_reducible first | refine' Cmp_eq_int ?_ | refine' Cmp_ne_int ?_ | refine' Cmp_lt_int ?_ | refine' Cmp_le_int ?_ | refine' Cmp_gt_int ?_ | refine' Cmp_ge_int ?_ | refine' Cmp_eq_str ?_ | refine' Cmp_ne_str ?_ | refine' Cmp_eq_bool ?_ | refine' Cmp_ne_bool ?_ | refine' Tru_bool ?_)
  | ((with_reducible refine' EX_assign ?a ?b ?_ ?c); (case a => with_reducible assumption); (case b => decide); (case c => with_unfolding_all rfl))
  | ((with_reducible refine' EX_assign_attr ?_ ?c); (case c => with_unfolding_all rfl))
  | ((with_reducible refine' EX_assign_item ?_ ?c); (case c => with_unfolding_all rfl))
  | ((with_reducible refine' EX_aug ?a ?b ?d ?_); (case a => with_reducible assumption); (case b => decide); (case d => tb_rel))
  | (with_reducible first | refine' EX_aug_attr ?_ | refine' EX_if ?_ | refine' EX_ret ?_ | refine' EX_brk ?_)
  | ((with_reducible refine' EX_expr ?a ?_ ?c); (case a => with_reducible assumption); (case c => with_unfolding_all rfl))
  | (with_reducible first | refine' EX_nil ?_ | refine' Seq_next ?_ | refine' Turn_next ?_ | refine' Turn_cont ?_ | refine' Turn_brk ?_ | refine' Turn_ret ?_ | refine' Stp_go ?_)
  | ((with_reducible refine' EX_for' ?_ ?a ?b); (case a => rfl); (case b => intro _; rfl))
  | ((with_reducible refine' CallW_len_list ?a ?b ?_); (case a => tb_rel); (case b => first | (first | lia | omega) | (simp; (first | lia | omega))))
  | (with_reducible first | refine' Seq_ret ?_ | refine' Seq_brk ?_ | refine' Seq_cont ?_)
  | ((with_reducible refine' Asn_name ?a ?b ?_); (case a => with_reducible assumption); (case b => decide))
  | ((with_reducible refine' EV_call_bi ?a ?b ?c ?d ?e ?_ ?g); (case a => with_reducible assumption); (case b => decide); (case c => kernel_rfl); (case d => with_reducible first | exact bo_abs | exact bo_len | exact bo_list | exact bo_max | exact bo_range | exact bo_reversed | exact bo_sorted | exact bo_tuple); (case e => decide); (case g => first | exact ⟨_, _, rfl, rfl, rfl⟩ | exact .inl rfl | exact .inr ⟨_, _, rfl, rfl, rfl⟩))
  | ((with_reducible refine' EV_call_ty ?a ?b ?c ?d ?e ?_ ?g); (case a => with_reducible assumption); (case b => decide); (case c => kernel_rfl); (case d => with_reducible first | exact bo_abs | exact bo_len | exact bo_list | exact bo_max | exact bo_range | exact bo_reversed | exact bo_sorted | exact bo_tuple); (case e => decide); (case g => first | exact ⟨_, _, rfl, rfl, rfl⟩ | exact .inl rfl | exact .inr ⟨_, _, rfl, rfl, rfl⟩)))
section
variable {D : Wd}

set_option maxHeartbeats 1000000
theorem coin_spec {S : PH} {n : Nat} {c : Addr} {cs : List Int} {k : Int} (hc : S c = some (.list (iL cs))) (hz : cs.length ≤ 5000) (hk : 0 < k) :
    CallC D (n + 1) (.ref 269) [.ref c, .int k 0] S fun v S' => (cs = [] ∧ v = .int 0 0 ∧ S' = S) ∨ ∃ ds d, cs = ds ++ [d] ∧ v = .int (d % k) 0 ∧ S' = S.set c (.list (iL ds)) := by
  refine CallC_fn (fn_law_coin _) loc_law_coin rfl fun L env fe T hT => ?_
  change EX _ _ _ (execs [_] _) _ _ _
  simp only [locs]
  repeat tb_start
  refine ⟨by simp, fun e he => ?_⟩
  refine Cmp_ne_ints (ns := cs) (ms := []) (PH.keep_new he hc) (PH.set_same ..) ?_
  refine Tru_bool ?_
  rcases snoc_cases cs with rfl | ⟨ds, d, rfl⟩
  · rw [if_neg (by simp)]
    refine EV_drop (S' := S) ?_ (PH.drop_new he)
    repeat tb_start
    exact hT _ _ (.inl ⟨rfl, rfl, rfl⟩)
  · rw [if_pos (by simp)]
    refine EV_drop (S' := S) ?_ (PH.drop_new he)
    repeat tb_start
    refine CallW_pop (vs := iL ds) (v := .int d 0) (by simpa [iL] using hc) (by simp at hz ⊢; (first | lia | omega)) ?_
    repeat tb_start
    refine Bin_mod hk ?_
    exact hT _ _ (.inr ⟨ds, d, rfl, rfl, rfl⟩)
end
section
/-! the data of a clause -/
inductive Lf where
  | a
  | v (k : Int)
inductive Tm where
  | lf (l : Lf)
  | s (x y : Lf)
inductive Gl where
  | call (ts : List Tm)
  | bi (ts : List Tm)
  | uni (x y : Tm)
  | mark
  | cut
  | fail

noncomputable def Le (S S' : PH) : Prop := ∀ a x, S a = some x → S' a = some x
theorem Le.refl (S : PH) : Le S S := fun _ _ h => h
theorem Le.trans {S S' S'' : PH} (h : Le S S') (h' : Le S' S'') : Le S S'' := fun a x e => h' a x (h a x e)
theorem Le.set {S S' : PH} {a : Addr} {x : AObj} (h : Le S S') (ha : S a = none) : Le S (S'.set a x) := fun b y e => by
  rw [PH.set_ne (by rintro rfl; rw [ha] at e; cases e)]; exact h b y e
theorem Le.new {S : PH} {a : Addr} {x : AObj} (ha : S a = none) : Le S (S.set a x) := (Le.refl S).set ha
theorem Le.none {S S' : PH} {a : Addr} (h : Le S S') (ha : S' a = none) : S a = none := by
  cases q : S a with
  | none => rfl
  | some x => rw [h a x q] at ha; cases ha

noncomputable def LfAt (S : PH) (r : Addr) : Lf → Prop
  | .a => S r = some (.tup [.str (Str.ofString "a") 0, .int 3 0])
  | .v k => S r = some (.tup [.str (Str.ofString "v") 0, .int k 0])
noncomputable def TmAt (S : PH) (r : Addr) : Tm → Prop
  | .lf l => LfAt S r l
  | .s x y => ∃ p a b, S r = some (.tup [.str (Str.ofString "s") 0, .int 2 0, .ref p]) ∧ S p = some (.tup [.ref a, .ref b]) ∧ LfAt S a x ∧ LfAt S b y
inductive All2 {α β : Type} (R : α → β → Prop) : List α → List β → Prop
  | nil : All2 R [] []
  | cons {a b as bs} : R a b → All2 R as bs → All2 R (a :: as) (b :: bs)
theorem All2.length {α β : Type} {R : α → β → Prop} {as : List α} {bs : List β} (h : All2 R as bs) : as.length = bs.length := by induction h <;> simp_all
theorem All2.mono {α β : Type} {R R' : α → β → Prop} {as : List α} {bs : List β} (h : All2 R as bs) (k : ∀ a b, R a b → R' a b) : All2 R' as bs := by
  induction h with
  | nil => exact .nil
  | cons x _ ih => exact .cons (k _ _ x) ih
theorem All2.get {α β : Type} {R : α → β → Prop} {as : List α} {bs : List β} (h : All2 R as bs) : ∀ {i : Nat} {b : β}, bs[i]? = some b → ∃ a, as[i]? = some a ∧ R a b := by
  induction h with
  | nil => intro i b e; simp at e
  | cons x _ ih =>
    intro i b e
    cases i with
    | zero => simp at e; subst e; exact ⟨_, rfl, x⟩
    | succ i => simp at e; exact ih e
theorem All2.append {α β : Type} {R : α → β → Prop} {as as' : List α} {bs bs' : List β} (h : All2 R as bs) (h' : All2 R as' bs') : All2 R (as ++ as') (bs ++ bs') := by
  induction h with
  | nil => exact h'
  | cons x _ ih => exact .cons x ih
theorem All2.reverse {α β : Type} {R : α → β → Prop} {as : List α} {bs : List β} (h : All2 R as bs) : All2 R as.reverse bs.reverse := by
  induction h with
  | nil => exact .nil
  | cons x _ ih => rw [List.reverse_cons, List.reverse_cons]; exact ih.append (.cons x .nil)

noncomputable def TmsAt (S : PH) (p : Addr) (ts : List Tm) : Prop := ∃ rs : List Addr, S p = some (.tup (rs.map .ref)) ∧ All2 (TmAt S) rs ts
noncomputable def GlAt (S : PH) (r : Addr) : Gl → Prop
  | .call ts => ∃ p, S r = some (.tup [.str (Str.ofString "call") 0, .int 5 0, .ref p]) ∧ TmsAt S p ts
  | .bi ts => ∃ p, S r = some (.tup [.str (Str.ofString "builtin") 0, .int 6 0, .ref p]) ∧ TmsAt S p ts
  | .uni x y => ∃ a b, S r = some (.tup [.str (Str.ofString "unify") 0, .ref a, .ref b]) ∧ TmAt S a x ∧ TmAt S b y
  | .mark => S r = some (.tup [.str (Str.ofString "mark") 0, .int 6 0])
  | .cut => S r = some (.tup [.str (Str.ofString "cutto") 0, .int 6 0])
  | .fail => S r = some (.tup [.str (Str.ofString "fail") 0])
noncomputable def Gl.terms : Gl → List Tm
  | .call ts => ts
  | .bi ts => ts
  | .uni x y => [x, y]
  | _ => []
noncomputable def Gl.special : Gl → Int
  | .mark => 6
  | .cut => 6
  | _ => -1
noncomputable def Gl.isCall : Gl → Bool
  | .call _ => true
  | _ => false

noncomputable def Tups (S S' : PH) : Prop := ∀ a vs, S a = some (.tup vs) → S' a = some (.tup vs)
theorem Le.tups {S S' : PH} (h : Le S S') : Tups S S' := fun a vs e => h a _ e
theorem LfAt.mono {S S' : PH} {r : Addr} {l : Lf} (k : Tups S S') (h : LfAt S r l) : LfAt S' r l := by cases l <;> exact k _ _ h
theorem TmAt.mono {S S' : PH} {r : Addr} {t : Tm} (k : Tups S S') (h : TmAt S r t) : TmAt S' r t := by
  cases t with
  | lf l => exact LfAt.mono k h
  | s x y => obtain ⟨p, a, b, h1, h2, h3, h4⟩ := h; exact ⟨p, a, b, k _ _ h1, k _ _ h2, h3.mono k, h4.mono k⟩
theorem TmsAt.mono {S S' : PH} {r : Addr} {t : List Tm} (k : Tups S S') (h : TmsAt S r t) : TmsAt S' r t := let ⟨rs, h1, h2⟩ := h; ⟨rs, k _ _ h1, h2.mono fun _ _ => TmAt.mono k⟩
theorem GlAt.mono {S S' : PH} {r : Addr} {t : Gl} (k : Tups S S') (h : GlAt S r t) : GlAt S' r t := by
  cases t with
  | call ts => obtain ⟨p, h1, h2⟩ := h; exact ⟨p, k _ _ h1, h2.mono k⟩
  | bi ts => obtain ⟨p, h1, h2⟩ := h; exact ⟨p, k _ _ h1, h2.mono k⟩
  | uni x y => obtain ⟨p, q, h1, h2, h3⟩ := h; exact ⟨p, q, k _ _ h1, h2.mono k, h3.mono k⟩
  | mark => exact k _ _ h
  | cut => exact k _ _ h
  | fail => exact k _ _ h

variable {D : Wd} {n : Nat} {S : PH}
set_option maxHeartbeats 1000000

theorem goal_special_spec {r : Addr} {g : Gl} (hg : GlAt S r g) : CallC D (n + 1) (.ref 56) [.ref r] S fun v S' => v = .int g.special 0 ∧ S' = S := by
  refine CallC_fn (fn_goal_special _) loc_goal_special rfl fun L env fe T hT => ?_
  change EX _ _ _ (execs [_, _] _) _ _ _
  simp only [locs]
  cases g
  · obtain ⟨p, h1, h2⟩ := hg
    repeat tb_start
    exact hT _ _ ⟨rfl, rfl⟩
  · obtain ⟨p, h1, h2⟩ := hg
    repeat tb_start
    exact hT _ _ ⟨rfl, rfl⟩
  · obtain ⟨p, q, h1, h2⟩ := hg
    repeat tb_start
    exact hT _ _ ⟨rfl, rfl⟩
  · have h1 : S r = _ := hg
    repeat tb_start
    exact hT _ _ ⟨rfl, rfl⟩
  · have h1 : S r = _ := hg
    repeat tb_start
    exact hT _ _ ⟨rfl, rfl⟩
  · have h1 : S r = _ := hg
    repeat tb_start
    exact hT _ _ ⟨rfl, rfl⟩

theorem goal_terms_spec {r : Addr} {g : Gl} (hg : GlAt S r g) : CallC D (n + 1) (.ref 49) [.ref r] S fun v S' => ∃ p, v = .ref p ∧ Le S S' ∧ TmsAt S' p g.terms := by
  refine CallC_fn (fn_goal_terms _) loc_goal_terms rfl fun L env fe T hT => ?_
  change EX _ _ _ (execs [_, _, _, _] _) _ _ _
  simp only [locs]
  cases g
  · obtain ⟨p, h1, h2⟩ := hg
    repeat tb_start
    exact hT _ _ ⟨p, rfl, Le.refl _, h2⟩
  · obtain ⟨p, h1, h2⟩ := hg
    repeat tb_start
    exact hT _ _ ⟨p, rfl, Le.refl _, h2⟩
  · obtain ⟨a, b, h1, h2, h3⟩ := hg
    repeat tb_start
    refine ⟨by simp, fun q hq => ?_⟩
    have k : Le S (S.set q (.tup [.ref a, .ref b])) := Le.new hq
    exact hT _ _ ⟨q, rfl, k, [a, b], PH.set_same .., .cons (h2.mono k.tups) (.cons (h3.mono k.tups) .nil)⟩
  all_goals
    have h1 : S r = _ := hg
    repeat tb_start
    refine ⟨by simp, fun q hq => ?_⟩
    exact hT _ _ ⟨q, rfl, Le.new hq, [], PH.set_same .., .nil⟩
end
section
abbrev Pt := Int × Str
/-- the places at object level: key, the list's address, its places -/
abbrev KPl := List (Int × Addr × List Pt)
noncomputable def PlAt (S : PH) (l : Addr) (ps : List Pt) : Prop := ∃ rs : List Addr, S l = some (.list (rs.map .ref)) ∧ All2 (fun r (p : Pt) => S r = some (.tup [.int p.1 0, .str p.2 0])) rs ps
theorem PlAt.mono {S S' : PH} {l : Addr} {ps : List Pt} (k : Le S S') (h : PlAt S l ps) : PlAt S' l ps := let ⟨rs, a, b⟩ := h; ⟨rs, k _ _ a, b.mono fun _ _ e => k _ _ e⟩
noncomputable def kDict (K : KPl) : List (Int × Value) := K.map fun e => (e.1, .ref e.2.1)
structure PlOk (N : Addr → Prop) (S : PH) (d : Addr) (K : KPl) : Prop where
  dict : ∃ ep, S d = some (.dict (kDict K) ep)
  lists : ∀ e ∈ K, PlAt S e.2.1 e.2.2
  new : ∀ e ∈ K, N e.2.1
  newd : N d
  rng : ∀ e ∈ K, 0 ≤ e.1 ∧ e.1 ≤ 6
  nd : (K.map (·.2.1)).Nodup
  ks : (K.map (·.1)).Nodup
theorem PlOk.mono {N : Addr → Prop} {S S' : PH} {d : Addr} {K : KPl} (h : PlOk N S d K) (k : Le S S') : PlOk N S' d K :=
  ⟨let ⟨ep, e⟩ := h.dict; ⟨ep, k _ _ e⟩, fun e he => (h.lists e he).mono k, h.new, h.newd, h.rng, h.nd, h.ks⟩

theorem valueAt_kDict (K : KPl) (k : Int) : valueAt (kDict K) k = (K.find? fun e => decide (e.1 = k)).map fun e => Value.ref e.2.1 := by
  unfold valueAt kDict
  induction K with
  | nil => rfl
  | cons e r ih =>
    rw [List.map_cons, List.find?_cons, List.find?_cons]
    by_cases h : e.1 = k
    · simp [h]
    · simp only [h, decide_false]; exact ih
theorem keys_kDict (K : KPl) : (kDict K).map (·.1) = K.map (·.1) := by simp [kDict]
@[simp] theorem kDict_length (K : KPl) : (kDict K).length = K.length := by simp [kDict]

noncomputable def kApp (K : KPl) (k : Int) (p : Pt) : KPl := K.map fun e => if e.1 = k then (e.1, e.2.1, e.2.2 ++ [p]) else e
theorem kApp_dict (K : KPl) (k : Int) (p : Pt) : kDict (kApp K k p) = kDict K := by
  unfold kDict kApp; rw [List.map_map]; refine List.map_congr_left fun e _ => ?_
  by_cases h : e.1 = k <;> simp [h]
theorem kApp_addrs (K : KPl) (k : Int) (p : Pt) : (kApp K k p).map (·.2.1) = K.map (·.2.1) := by
  unfold kApp; rw [List.map_map]; refine List.map_congr_left fun e _ => ?_
  by_cases h : e.1 = k <;> simp [h]
theorem kApp_keys (K : KPl) (k : Int) (p : Pt) : (kApp K k p).map (·.1) = K.map (·.1) := by
  unfold kApp; rw [List.map_map]; refine List.map_congr_left fun e _ => ?_
  by_cases h : e.1 = k <;> simp [h]
theorem nodup_inj {α β : Type} {f : α → β} : ∀ {l : List α}, (l.map f).Nodup → ∀ {x y}, x ∈ l → y ∈ l → f x = f y → x = y
  | a :: l, h, x, y, hx, hy, e => by
    rw [List.map_cons, List.nodup_cons] at h
    rcases List.mem_cons.mp hx with hx' | hx' <;> rcases List.mem_cons.mp hy with hy' | hy'
    · rw [hx', hy']
    · subst hx'; exact (h.1 (List.mem_map.mpr ⟨y, hy', e.symm⟩)).elim
    · subst hy'; exact (h.1 (List.mem_map.mpr ⟨x, hx', e⟩)).elim
    · exact nodup_inj h.2 hx' hy' e

theorem PlOk.app {N : Addr → Prop} {S : PH} {d r : Addr} {K : KPl} {e : Int × Addr × List Pt} {vs : List Value} {p : Pt} (h : PlOk N S d K) (he : e ∈ K) (hv : S e.2.1 = some (.list vs)) (hr : S r = some (.tup [.int p.1 0, .str p.2 0])) :
    PlOk N (S.set e.2.1 (.list (vs ++ [.ref r]))) d (kApp K e.1 p) := by
  have keepT : ∀ q ws, S q = some (.tup ws) → (S.set e.2.1 (.list (vs ++ [.ref r]))) q = some (.tup ws) := fun q ws hq => by
    rw [PH.set_ne (by rintro rfl; rw [hv] at hq; cases hq)]; exact hq
  refine ⟨?_, ?_, ?_, h.newd, ?_, by rw [kApp_addrs]; exact h.nd, by rw [kApp_keys]; exact h.ks⟩
  · obtain ⟨ep, hd⟩ := h.dict
    refine ⟨ep, ?_⟩
    rw [kApp_dict, PH.set_ne (by rintro rfl; rw [hd] at hv; cases hv)]; exact hd
  · intro e' he'
    obtain ⟨e0, h0, rfl⟩ := List.mem_map.mp he'
    obtain ⟨rs, a1, a2⟩ := h.lists e0 h0
    by_cases q : e0.1 = e.1
    · have : e0 = e := nodup_inj h.ks h0 he q
      subst this
      rw [hv] at a1
      simp only [if_true]
      refine ⟨rs ++ [r], ?_, (a2.mono fun _ _ x => keepT _ _ x).append (.cons (keepT _ _ hr) .nil)⟩
      rw [PH.set_same]; injection a1 with a1; injection a1 with a1; subst a1; simp
    · have q2 : e0.2.1 ≠ e.2.1 := fun q2 => q (by rw [nodup_inj h.nd h0 he q2])
      simp only [q, if_false]
      exact ⟨rs, by rw [PH.set_ne q2]; exact a1, a2.mono fun _ _ x => keepT _ _ x⟩
  · intro e' he'
    obtain ⟨e0, h0, rfl⟩ := List.mem_map.mp he'
    have := h.new e0 h0
    by_cases q : e0.1 = e.1 <;> simp [q, this]
  · intro e' he'
    obtain ⟨e0, h0, rfl⟩ := List.mem_map.mp he'
    have := h.rng e0 h0
    by_cases q : e0.1 = e.1
    · simp only [q, if_true]; exact q ▸ this
    · simp only [q, if_false]; exact this

theorem stored_absent {kvs : List (Int × Value)} {k : Int} {v : Value} (h : valueAt kvs k = none) : stored kvs k v = kvs ++ [(k, v)] := by
  unfold stored
  have : (kvs.any fun kv => decide (kv.1 = k)) = false := by
    unfold valueAt at h
    rw [Option.map_eq_none_iff, List.find?_eq_none] at h
    rw [List.any_eq_false]; intro x hx; exact h x hx
  rw [this]; simp

theorem PlOk.dflt {N : Addr → Prop} {S : PH} {d a : Addr} {K : KPl} {k : Int} {ep : Nat} (h : PlOk N S d K) (hN : N a) (hr : 0 ≤ k ∧ k ≤ 6) (ha : S a = none) (hk : valueAt (kDict K) k = none) :
    PlOk N ((S.set a (.list [])).set d (.dict (stored (kDict K) k (.ref a)) ep)) d (K ++ [(k, a, [])]) := by
  obtain ⟨ep0, hd⟩ := h.dict
  have hda : d ≠ a := by rintro rfl; rw [hd] at ha; cases ha
  have keep : ∀ q x, q ≠ d → S q = some x → ((S.set a (.list [])).set d (.dict (stored (kDict K) k (.ref a)) ep)) q = some x := fun q x hq hx => by
    rw [PH.set_ne hq, PH.set_ne (by rintro rfl; rw [ha] at hx; cases hx)]; exact hx
  have nokey : ∀ e ∈ K, e.1 ≠ k := by
    rw [valueAt_kDict, Option.map_eq_none_iff, List.find?_eq_none] at hk
    intro e he q; exact hk e he (by simpa using q)
  refine ⟨⟨ep, ?_⟩, ?_, ?_, h.newd, ?_, ?_, ?_⟩
  · rw [PH.set_same, stored_absent hk]; simp [kDict]
  · intro e he
    rcases List.mem_append.mp he with he | he
    · obtain ⟨rs, a1, a2⟩ := h.lists e he
      refine ⟨rs, keep _ _ (by intro q; rw [q, hd] at a1; cases a1) a1, a2.mono fun r p x => keep _ _ (by intro q; rw [q, hd] at x; cases x) x⟩
    · have : e = (k, a, []) := by simpa using he
      subst this
      exact ⟨[], by rw [PH.set_ne hda.symm]; exact PH.set_same .., .nil⟩
  · intro e he
    rcases List.mem_append.mp he with he | he
    · exact h.new e he
    · have : e = (k, a, []) := by simpa using he
      subst this
      exact hN
  · intro e he
    rcases List.mem_append.mp he with he | he
    · exact h.rng e he
    · have : e = (k, a, []) := by simpa using he
      subst this
      exact hr
  · rw [List.map_append, List.nodup_append]
    refine ⟨h.nd, by simp, ?_⟩
    intro x hx y hy q
    have : y = a := by simpa using hy
    subst this; subst q
    obtain ⟨e, he, rfl⟩ := List.mem_map.mp hx
    obtain ⟨rs, a1, _⟩ := h.lists e he
    rw [ha] at a1; cases a1
  · rw [List.map_append, List.nodup_append]
    refine ⟨h.ks, by simp, ?_⟩
    intro x hx y hy q
    have : y = k := by simpa using hy
    subst this; subst q
    obtain ⟨e, he, e1⟩ := List.mem_map.mp hx
    exact nokey e he e1

theorem nodup_lt : ∀ (n : Nat) (l : List Nat), l.Nodup → (∀ x ∈ l, x < n) → l.length ≤ n
  | 0, l, _, h => by
    cases l with
    | nil => simp
    | cons x r => exact absurd (h x (List.mem_cons_self ..)) (Nat.not_lt_zero _)
  | n + 1, l, hn, h => by
    have := nodup_lt n (l.erase n) (hn.erase n) (fun x hx => by
      have h1 := h x (List.mem_of_mem_erase hx)
      have h2 : x ≠ n := fun q => by rw [q] at hx; exact (List.Nodup.not_mem_erase hn) hx
      (first | lia | omega))
    have h3 := List.length_erase_le (a := n) (l := l)
    by_cases hm : n ∈ l
    · have := List.length_erase_of_mem hm; (first | lia | omega)
    · rw [List.erase_of_not_mem hm] at this; (first | lia | omega)
theorem nodup_seven (l : List Int) (hn : l.Nodup) (h : ∀ x ∈ l, 0 ≤ x ∧ x ≤ 6) : l.length ≤ 7 := by
  have := nodup_lt 7 (l.map Int.toNat) (by
    induction l with
    | nil => exact .nil
    | cons x r ih =>
      rw [List.nodup_cons] at hn
      rw [List.map_cons, List.nodup_cons]
      refine ⟨fun hm => ?_, ih hn.2 fun y hy => h y (.tail _ hy)⟩
      obtain ⟨y, hy, e⟩ := List.mem_map.mp hm
      have h1 := h x (List.mem_cons_self ..)
      have h2 := h y (.tail _ hy)
      have : y = x := by (first | lia | omega)
      subst this; exact hn.1 hy) (fun x hx => by
    obtain ⟨y, hy, rfl⟩ := List.mem_map.mp hx
    have := h y hy; (first | lia | omega))
  simpa using this
theorem PlOk.small {N : Addr → Prop} {S : PH} {d : Addr} {K : KPl} (h : PlOk N S d K) : K.length ≤ 7 := by
  have := nodup_seven (K.map (·.1)) h.ks (fun x hx => by obtain ⟨e, he, rfl⟩ := List.mem_map.mp hx; exact h.rng e he)
  simpa using this
/-- a change at an object that is not of the places -/
theorem PlOk.other {N : Addr → Prop} {S : PH} {d a : Addr} {K : KPl} {x y : AObj} (h : PlOk N S d K) (ha : ¬ N a) (hx : S a = some x) (hnt : ∀ vs, x ≠ .tup vs) : PlOk N (S.set a y) d K := by
  refine ⟨?_, fun e he => ?_, h.new, h.newd, h.rng, h.nd, h.ks⟩
  · obtain ⟨ep, hd⟩ := h.dict
    exact ⟨ep, by rw [PH.set_ne (by rintro rfl; exact ha h.newd)]; exact hd⟩
  · obtain ⟨rs, a1, a2⟩ := h.lists e he
    have := h.new e he
    exact ⟨rs, by rw [PH.set_ne (by rintro q; rw [q] at this; exact ha this)]; exact a1, a2.mono fun r p z => by
      rw [PH.set_ne (by rintro rfl; rw [hx] at z; injection z with z; exact hnt _ z)]; exact z⟩
theorem PlOk.weaken {N N' : Addr → Prop} {S : PH} {d : Addr} {K : KPl} (h : PlOk N S d K) (k : ∀ a, N a → N' a) : PlOk N' S d K := ⟨h.dict, h.lists, fun e he => k _ (h.new e he), k _ h.newd, h.rng, h.nd, h.ks⟩
/-- one more object is not of the places -/
theorem PlOk.avoid {N : Addr → Prop} {S : PH} {d a : Addr} {K : KPl} {x : AObj} (h : PlOk N S d K) (ha : S a = none) : PlOk (fun b => N b ∧ b ≠ a) (S.set a x) d K := by
  have h' := h.mono (Le.new (x := x) ha)
  refine ⟨h'.dict, h'.lists, fun e he => ⟨h.new e he, ?_⟩, ⟨h.newd, ?_⟩, h.rng, h.nd, h.ks⟩
  · obtain ⟨rs, a1, _⟩ := h.lists e he
    intro q; rw [q, ha] at a1; cases a1
  · obtain ⟨ep, hd⟩ := h.dict
    intro q; rw [q, ha] at hd; cases hd

/-- what a run may change: only objects of N; tuples stay; nothing goes out of sight -/
structure Ext (N : Addr → Prop) (S S' : PH) : Prop where
  keep : ∀ b x, ¬ N b → S b = some x → S' b = some x
  tups : Tups S S'
  dom : ∀ a, S' a = none → S a = none
theorem Ext.refl (N : Addr → Prop) (S : PH) : Ext N S S := ⟨fun _ _ _ h => h, fun _ _ h => h, fun _ h => h⟩
theorem Ext.trans {N : Addr → Prop} {S S' S'' : PH} (h : Ext N S S') (h' : Ext N S' S'') : Ext N S S'' := ⟨fun b x n e => h'.keep b x n (h.keep b x n e), fun a vs e => h'.tups a vs (h.tups a vs e), fun a e => h.dom a (h'.dom a e)⟩
theorem Ext.new {N : Addr → Prop} {S S' : PH} {a : Addr} {x : AObj} (h : Ext N S S') (ha : S' a = none) : Ext N S (S'.set a x) :=
  ⟨fun b y n e => PH.keep_new ha (h.keep b y n e), fun b vs e => PH.keep_new ha (h.tups b vs e), fun b e => h.dom b (by
    by_cases q : b = a
    · subst q; exact ha
    · rwa [PH.set_ne q] at e)⟩
theorem Ext.own {N : Addr → Prop} {S S' : PH} {a : Addr} {x y : AObj} (h : Ext N S S') (ha : S' a = some y) (hn : N a) (hy : ∀ vs, y ≠ .tup vs) : Ext N S (S'.set a x) :=
  ⟨fun b z n e => by rw [PH.set_ne (by rintro rfl; exact n hn)]; exact h.keep b z n e,
   fun b vs e => by
    have := h.tups b vs e
    rw [PH.set_ne (by rintro rfl; rw [ha] at this; injection this with this; exact hy _ this)]; exact this,
   fun b e => h.dom b (by
    by_cases q : b = a
    · subst q; rw [PH.set_same] at e; cases e
    · rwa [PH.set_ne q] at e)⟩
theorem Ext.mono {N N' : Addr → Prop} {S S' : PH} (h : Ext N S S') (k : ∀ a, N a → N' a) : Ext N' S S' := ⟨fun b x n e => h.keep b x (fun q => n (k _ q)) e, h.tups, h.dom⟩
theorem Le.ext {N : Addr → Prop} {S S' : PH} (h : Le S S') : Ext N S S' := ⟨fun b x _ e => h b x e, h.tups, fun a e => h.none e⟩

/-- the plain places -/
abbrev Pls := List (Int × List Pt)
noncomputable def kP (K : KPl) : Pls := K.map fun e => (e.1, e.2.2)
noncomputable def addP (P : Pls) (k : Int) (p : Pt) : Pls := if P.any (fun e => decide (e.1 = k)) then P.map (fun e => if e.1 = k then (e.1, e.2 ++ [p]) else e) else P ++ [(k, [p])]
noncomputable def addAll (P : Pls) (es : List (Int × Pt)) : Pls := es.foldl (fun P e => addP P e.1 e.2) P
theorem kP_any (K : KPl) (k : Int) : (kP K).any (fun e => decide (e.1 = k)) = K.any (fun e => decide (e.1 = k)) := by simp [kP, List.any_map]; rfl
theorem kP_there {K : KPl} {k : Int} {p : Pt} (h : K.any (fun e => decide (e.1 = k)) = true) : kP (kApp K k p) = addP (kP K) k p := by
  unfold addP; rw [kP_any, h, if_pos rfl]
  unfold kP kApp; rw [List.map_map, List.map_map]; refine List.map_congr_left fun e _ => ?_
  by_cases h : e.1 = k <;> simp [h]
theorem kP_absent {K : KPl} {k : Int} {p : Pt} {a : Addr} (h : K.any (fun e => decide (e.1 = k)) = false) : kP (kApp (K ++ [(k, a, [])]) k p) = addP (kP K) k p := by
  unfold addP; rw [kP_any, h, if_neg (by decide)]
  unfold kP kApp
  rw [List.map_append, List.map_append]
  congr 1
  · rw [List.map_map]; refine List.map_congr_left fun e he => ?_
    have := (List.any_eq_false.mp h) e he
    have : ¬ e.1 = k := by simpa using this
    simp [this]
  · simp
theorem map_ref_inj {a b : List Addr} (h : a.map Value.ref = b.map Value.ref) : a = b := by
  induction a generalizing b with
  | nil => cases b with | nil => rfl | cons => cases h
  | cons x a ih => cases b with
    | nil => cases h
    | cons y b => simp only [List.map_cons, List.cons.injEq, Value.ref.injEq] at h; rw [h.1, ih h.2]
theorem kP_bound {K : KPl} {c : Nat} (h : ∀ e ∈ kP K, e.2.length ≤ c) : ∀ e ∈ K, e.2.2.length ≤ c := fun e he => h (e.1, e.2.2) (List.mem_map.mpr ⟨e, he, rfl⟩)
theorem bound_kP {K : KPl} {c : Nat} (h : ∀ e ∈ K, e.2.2.length ≤ c) : ∀ e ∈ kP K, e.2.length ≤ c := fun e he => by
  obtain ⟨x, hx, rfl⟩ := List.mem_map.mp he
  exact h x hx
theorem addP_len {P : Pls} {k : Int} {p : Pt} {c : Nat} (h : ∀ e ∈ P, e.2.length ≤ c) : ∀ e ∈ addP P k p, e.2.length ≤ c + 1 := by
  intro e he
  unfold addP at he
  split at he
  · obtain ⟨x, hx, rfl⟩ := List.mem_map.mp he
    have := h x hx
    split <;> simp <;> (first | lia | omega)
  · rcases List.mem_append.mp he with he | he
    · have := h e he; (first | lia | omega)
    · have : e = (k, [p]) := by simpa using he
      subst this; simp
theorem addAll_len : ∀ (es : List (Int × Pt)) {P : Pls} {c : Nat}, (∀ e ∈ P, e.2.length ≤ c) → ∀ e ∈ addAll P es, e.2.length ≤ c + es.length
  | [], P, c, h => h
  | x :: es, P, c, h => by
    intro e he
    have := addAll_len es (P := addP P x.1 x.2) (c := c + 1) (addP_len h) e he
    simp; (first | lia | omega)
theorem kP_len {K : KPl} {es : List (Int × Pt)} (h : kP K = addAll [] es) : ∀ e ∈ K, e.2.2.length ≤ es.length := by
  intro e he
  have := addAll_len es (P := []) (c := 0) (by simp) (e.1, e.2.2) (by rw [← h]; exact List.mem_map.mpr ⟨e, he, rfl⟩)
  simpa using this
end
section
section
variable {D : Wd} {n : Nat} {L : Addr} {S : PH} {m : Loc}
variable {Q : Value → PH → Loc → Prop}
theorem CallW_place {N : Addr → Prop} {d a : Addr} {K : KPl} {k : Int} (P : PlOk N S d K) (hN : N a) (hr : 0 ≤ k ∧ k ≤ 6) (ha : S a = none)
    (h : ∀ K' e S', e ∈ K' → e.1 = k → PlOk N S' d K' → Ext N S S' → (∀ p, kP (kApp K' k p) = addP (kP K) k p) → (∀ b, (∀ e ∈ K, e.2.2.length ≤ b) → e.2.2.length ≤ b) → Q (.ref e.2.1) S' m) :
    CallW D n L (.builtin "dict.setdefault") [.ref d, .int k 0, .ref a] (S.set a (.list [])) m Q := by
  obtain ⟨ep, hd⟩ := P.dict
  have hd' : (S.set a (.list [])) d = some (.dict (kDict K) ep) := PH.keep_new ha hd
  refine CallW_setdefault hd' (by have := P.small; simp; (first | lia | omega)) (fun x hx => ?_) (fun hx ep' => ?_)
  · rw [valueAt_kDict] at hx
    obtain ⟨e, he, rfl⟩ := Option.map_eq_some_iff.mp hx
    have hk : e.1 = k := by simpa using List.find?_some he
    have hm := List.mem_of_find?_eq_some he
    refine h K e _ hm hk (P.mono (Le.new ha)) ((Ext.refl _ _).new ha) (fun p => kP_there ?_) fun b hb => hb e hm
    rw [List.any_eq_true]; exact ⟨e, hm, by simpa using hk⟩
  · refine h (K ++ [(k, a, [])]) (k, a, []) _ (by simp) rfl (P.dflt hN hr ha hx) (((Ext.refl _ _).new ha).own hd' P.newd (by simp)) (fun p => kP_absent ?_) fun b _ => Nat.zero_le _
    rw [valueAt_kDict, Option.map_eq_none_iff, List.find?_eq_none] at hx
    rw [List.any_eq_false]; intro e he; exact hx e he
end

/-! the events of a row -/
noncomputable def Lf.evs (at_ : Int) (w : Str) : Lf → List (Int × Pt)
  | .a => []
  | .v k => [(k, (at_, w))]
noncomputable def Tm.evs (at_ : Int) (w ws : Str) : Tm → List (Int × Pt)
  | .lf l => l.evs at_ w
  | .s x y => x.evs at_ ws ++ y.evs at_ ws
noncomputable def Lf.ok : Lf → Prop
  | .a => True
  | .v k => 0 ≤ k ∧ k ≤ 5
noncomputable def Tm.ok : Tm → Prop
  | .lf l => l.ok
  | .s x y => x.ok ∧ y.ok
noncomputable def Gl.ok (g : Gl) : Prop := g.terms.length ≤ 3 ∧ ∀ t ∈ g.terms, t.ok
noncomputable def Tm.wt : Tm → Nat
  | .lf _ => 1
  | .s _ _ => 3
noncomputable def Tm.isS : Tm → Bool
  | .s _ _ => true
  | _ => false

/-- a stack of terms and words, its bottom first -/
noncomputable def StkE (S : PH) (r : Addr) (e : Tm × Str) : Prop := ∃ a, S r = some (.tup [.ref a, .str e.2 0]) ∧ TmAt S a e.1
noncomputable def StkAt (S : PH) (st : Addr) (q : List (Tm × Str)) : Prop := ∃ rs : List Addr, S st = some (.list (rs.map .ref)) ∧ All2 (StkE S) rs q
theorem StkE.mono {S S' : PH} {r : Addr} {e : Tm × Str} (k : Tups S S') (h : StkE S r e) : StkE S' r e := let ⟨a, x, y⟩ := h; ⟨a, k _ _ x, y.mono k⟩
noncomputable def qevs (at_ : Int) (ws : Str) (q : List (Tm × Str)) : List (Int × Pt) := q.reverse.flatMap fun e => e.1.evs at_ e.2 ws
noncomputable def qwt (q : List (Tm × Str)) : Nat := (q.map fun e => e.1.wt).sum
theorem qwt_app (p q : List (Tm × Str)) : qwt (p ++ q) = qwt p + qwt q := by simp [qwt]
theorem qlen (q : List (Tm × Str)) : q.length ≤ qwt q := by
  induction q with
  | nil => simp [qwt]
  | cons e r ih => simp only [qwt, List.map_cons, List.sum_cons, List.length_cons] at ih ⊢; have : 1 ≤ e.1.wt := by cases e.1 <;> simp [Tm.wt]
                   (first | lia | omega)
theorem All2.snoc {α β : Type} {R : α → β → Prop} {as : List α} {bs : List β} {b : β} (h : All2 R as (bs ++ [b])) : ∃ as' a, as = as' ++ [a] ∧ All2 R as' bs ∧ R a b := by
  induction bs generalizing as with
  | nil => cases h with | cons x y => cases y; exact ⟨[], _, rfl, .nil, x⟩
  | cons c bs ih => cases h with | cons x y => obtain ⟨as', a, rfl, h1, h2⟩ := ih y; exact ⟨_ :: as', a, rfl, .cons x h1, h2⟩
theorem addAll_append (P : Pls) (a b : List (Int × Pt)) : addAll P (a ++ b) = addAll (addAll P a) b := by simp [addAll]

variable {D : Wd} {n : Nat} {S : PH}
noncomputable def KerAt (S : PH) (kr : Addr) (as : List Tm) (gs : List Gl) : Prop := ∃ pa lg rs, S kr = some (.inst 38 [(Str.ofString "functor", .int 1 0), (Str.ofString "args", .ref pa), (Str.ofString "goals", .ref lg), (Str.ofString "count", .int 7 0)]) ∧
  TmsAt S pa as ∧ S lg = some (.list (rs.map .ref)) ∧ All2 (GlAt S) rs gs
structure WfK (as : List Tm) (gs : List Gl) : Prop where
  as3 : as.length ≤ 3
  aok : ∀ t ∈ as, t.ok
  gs4 : gs.length ≤ 4
  gok : ∀ g ∈ gs, g.ok
set_option maxHeartbeats 1000000

/-! rows -/
abbrev Row := Int × Str × List Tm
noncomputable def RowAt (S : PH) (r : Addr) (e : Row) : Prop := ∃ p, S r = some (.tup [.int e.1 0, .str e.2.1 0, .ref p]) ∧ TmsAt S p e.2.2
theorem RowAt.mono {S S' : PH} {r : Addr} {e : Row} (k : Tups S S') (h : RowAt S r e) : RowAt S' r e := let ⟨a, x, y⟩ := h; ⟨a, k _ _ x, y.mono k⟩
noncomputable def spec1 (i : Int) (g : Gl) : List (Int × Pt) := if 0 ≤ g.special then [(g.special, (i, Str.ofString "special"))] else []
noncomputable def specs : Int → List Gl → List (Int × Pt)
  | _, [] => []
  | i, g :: r => spec1 i g ++ specs (i + 1) r
noncomputable def goalRows : Int → List Gl → List Row
  | _, [] => []
  | i, g :: r => (i, Str.ofString "goal", g.terms) :: goalRows (i + 1) r
noncomputable def rowsOf (as : List Tm) (gs : List Gl) : List Row := (-1, Str.ofString "head", as) :: goalRows 0 gs
noncomputable def rowEvs (e : Row) : List (Int × Pt) := e.2.2.flatMap (Tm.evs e.1 (e.2.1 ++ Str.ofString "_arg") (e.2.1 ++ Str.ofString "_struct"))
noncomputable def allEvs (as : List Tm) (gs : List Gl) : List (Int × Pt) := specs 0 gs ++ (rowsOf as gs).flatMap rowEvs
noncomputable def placesOf (as : List Tm) (gs : List Gl) : Pls := addAll [] (allEvs as gs)
theorem specs_snoc (g : Gl) : ∀ (l : List Gl) (b : Int), specs b (l ++ [g]) = specs b l ++ spec1 (b + l.length) g
  | [], b => by simp [specs]
  | x :: l, b => by
    rw [List.cons_append, specs, specs, specs_snoc g l, List.append_assoc, List.length_cons]
    congr 3; (first | lia | omega)
theorem goalRows_snoc (g : Gl) : ∀ (l : List Gl) (b : Int), goalRows b (l ++ [g]) = goalRows b l ++ [(b + l.length, Str.ofString "goal", g.terms)]
  | [], b => by simp [goalRows]
  | x :: l, b => by
    rw [List.cons_append, goalRows, goalRows, goalRows_snoc g l, List.length_cons, List.cons_append]
    congr 4; (first | lia | omega)
theorem take_succ_get {α : Type} {l : List α} {i : Nat} {g : α} (h : l[i]? = some g) : l.take (i + 1) = l.take i ++ [g] := by
  rw [List.take_succ, h]; rfl
theorem goalRows_length : ∀ (l : List Gl) (b : Int), (goalRows b l).length = l.length
  | [], _ => rfl
  | _ :: l, b => by simp [goalRows, goalRows_length l]

theorem specs_length : ∀ (l : List Gl) (b : Int), (specs b l).length ≤ l.length
  | [], _ => by simp [specs]
  | g :: l, b => by
    have := specs_length l (b + 1)
    have : (spec1 b g).length ≤ 1 := by unfold spec1; split <;> simp
    simp [specs]; (first | lia | omega)
end
section
variable {D : Wd} {n : Nat} {S : PH}
set_option maxHeartbeats 1000000
theorem getElem_of {α : Type} {l : List α} {i : Nat} {a : α} {h : i < l.length} (e : l[i]? = some a) : l[i] = a := by
  rw [List.getElem?_eq_getElem h] at e; exact Option.some.inj e
noncomputable def forBody : Option Stmt → List Stmt
  | some (.For _ _ b _ _) => b
  | _ => []
noncomputable def rowBody (P : Params) : List Stmt := forBody ((bodyOf P 63)[3]?)

theorem row_body {L : Addr} {env : Env} {m : Loc} {N : Addr → Prop} {d p : Addr} {K : KPl} {a_ : Int} {w : Str} {ts : List Tm} (fe : FE L nm_places_of env) (P : PlOk N S d K) (hN : ∀ a, S a = none → N a) (hts : TmsAt S p ts)
    (h3 : ts.length ≤ 3) (hok : ∀ t ∈ ts, t.ok) (hw : w.length ≤ 10) (hlen : ∀ e ∈ K, e.2.2.length ≤ 100)
    (m1 : m (Str.ofString "places") = some (.ref d)) (m2 : m (Str.ofString "at") = some (.int a_ 0)) (m3 : m (Str.ofString "place") = some (.str w 0)) (m4 : m (Str.ofString "terms") = some (.ref p)) :
    EX D (n + 1) L (execs (rowBody D.w.params) env) S m fun f S' m' => f = .next ∧ ∃ K', PlOk N S' d K' ∧ kP K' = addAll (kP K) (rowEvs (a_, w, ts)) ∧ Ext N S S' ∧ m' (Str.ofString "places") = some (.ref d) := by
  refine EX_gen fun T hT => ?_
  change EX _ _ _ (execs [_, _, _] _) _ _ _
  repeat tb_start
  refine ⟨by simp, fun st hst => ?_⟩
  repeat tb_start
  obtain ⟨rs, hp, hrs⟩ := hts
  have hNst : N st := hN _ hst
  have hlr : rs.length = ts.length := hrs.length
  refine forK_rev (vs := rs.map .ref) (fun i S' m' => PlOk (fun a => N a ∧ a ≠ st) S' d K ∧ StkAt S' st ((ts.reverse.take i).map fun t => (t, w ++ Str.ofString "_arg")) ∧ Ext N S S' ∧ S' p = some (.tup (rs.map .ref)) ∧
    m' (Str.ofString "places") = some (.ref d) ∧ m' (Str.ofString "at") = some (.int a_ 0) ∧ m' (Str.ofString "place") = some (.str w 0) ∧ m' (Str.ofString "stack") = some (.ref st)) (by tb_rel) (by simp; (first | lia | omega)) ?_ ?_ ?_ ?_
  · exact ⟨P.avoid hst, ⟨[], PH.set_same .., .nil⟩, (Ext.refl _ _).new hst, by tb_rel, by tb_rel, by tb_rel, by tb_rel, by tb_rel⟩
  · rintro i S' m' ⟨_, _, _, h, _⟩; exact h
  · rintro i S' m' U hU hi ⟨hP, ⟨qs, hq1, hq2⟩, hE, hp', n1, n2, n3, n4⟩
    have hi2 : i < ts.reverse.length := by simpa [hlr] using hi
    obtain ⟨t, ht⟩ : ∃ t, ts.reverse[i]? = some t := ⟨_, List.getElem?_eq_getElem hi2⟩
    obtain ⟨r, hr, hta⟩ := hrs.reverse.get ht
    have hv : (rs.map Value.ref).reverse[i] = .ref r := getElem_of (by rw [← List.map_reverse, List.getElem?_map, hr]; rfl)
    rw [hv]
    have hqs : (qs.map Value.ref).length ≤ 10 := by rw [List.length_map, hq2.length]; simp; (first | lia | omega)
    repeat tb_start
    refine ⟨by simp, fun e he => ?_⟩
    repeat tb_start
    have hE2 := hE.new (x := .tup [.ref r, .str (w ++ Str.ofString "_arg") 0]) he
    have hE3 := hE2.own (x := .list (qs.map .ref ++ [.ref e])) (PH.keep_new he hq1) hNst (by simp)
    have tt : Tups S' ((S'.set e (.tup [.ref r, .str (w ++ Str.ofString "_arg") 0])).set st (.list (qs.map .ref ++ [.ref e]))) := (((Ext.refl N S').new he).own (x := .list (qs.map .ref ++ [.ref e])) (PH.keep_new he hq1) hNst (by simp)).tups
    refine hU _ _ ⟨(hP.mono (Le.new he)).other (fun q => q.2 rfl) (PH.keep_new he hq1) (by simp), ⟨qs ++ [e], by rw [List.map_append]; exact PH.set_same .., ?_⟩, hE3, tt _ _ hp', by tb_rel, by tb_rel, by tb_rel, by tb_rel⟩
    rw [take_succ_get ht, List.map_append]
    refine (hq2.mono fun _ _ x => x.mono tt).append (.cons ⟨r, ?_, (hta.mono hE.tups).mono tt⟩ .nil)
    rw [PH.set_ne (by rintro rfl; rw [hq1] at he; cases he)]; exact PH.set_same ..
  · rintro S' m' ⟨hP, hq, hE, hp', n1, n2, n3, n4⟩
    have e1 : ts.reverse.take (rs.map Value.ref).length = ts.reverse := List.take_of_length_le (by simp [hlr])
    rw [e1] at hq
    refine EX_while' (fun k S' m' => ∃ K' q c, PlOk (fun a => N a ∧ a ≠ st) S' d K' ∧ StkAt S' st q ∧ addAll (kP K') (qevs a_ (w ++ Str.ofString "_struct") q) = addAll (kP K) (rowEvs (a_, w, ts)) ∧ qwt q = k ∧ (∀ e ∈ q, e.1.ok) ∧
      (∀ e ∈ K', e.2.2.length ≤ c) ∧ c + k ≤ 150 ∧ Ext N S S' ∧
      m' (Str.ofString "places") = some (.ref d) ∧ m' (Str.ofString "at") = some (.int a_ 0) ∧ m' (Str.ofString "place") = some (.str w 0) ∧ m' (Str.ofString "stack") = some (.ref st)) (qwt (ts.reverse.map fun t => (t, w ++ Str.ofString "_arg"))) ?_ ?_
    · refine ⟨K, _, 100, hP, hq, ?_, rfl, ?_, hlen, ?_, hE, n1, n2, n3, n4⟩
      · congr 1
        unfold qevs rowEvs
        rw [← List.map_reverse, List.reverse_reverse, List.flatMap_map]
      · intro e he
        obtain ⟨t, ht, rfl⟩ := List.mem_map.mp he
        exact hok t (List.mem_reverse.mp ht)
      · have : ∀ l : List Tm, qwt (l.map fun t => (t, w ++ Str.ofString "_arg")) ≤ 3 * l.length := by
          intro l
          induction l with
          | nil => simp [qwt]
          | cons t l ih => have : t.wt ≤ 3 := by cases t <;> simp [Tm.wt]
                           simp only [qwt, List.map_cons, List.sum_cons, List.length_cons] at ih ⊢; (first | lia | omega)
        have := this ts.reverse
        simp at this ⊢; (first | lia | omega)
    · rintro k S' m' U hU ⟨K', q, c, hP, ⟨qs, hq1, hq2⟩, hadd, hwt, hok', hlen', hck, hE, n1, n2, n3, n4⟩
      have hql := qlen q
      have hqs : qs.length = q.length := hq2.length
      repeat tb_start
      refine Tru_list hq1 (by simp; (first | lia | omega)) ?_
      rcases snoc_cases q with rfl | ⟨q', e, rfl⟩
      · cases hq2
        refine ite_f rfl ?_
        repeat tb_start
        refine hT _ _ _ ⟨rfl, K', hP.weaken fun a h => h.1, ?_, hE, n1⟩
        simpa [qevs, addAll] using hadd
      · obtain ⟨qs', r, rfl, hq3, ⟨ta, hr, hta⟩⟩ := hq2.snoc
        obtain ⟨t, tw⟩ := e
        dsimp only at hr hta
        refine ite_t (by simp) ?_
        repeat tb_start
        refine CallW_pop (vs := qs'.map .ref) (v := .ref r) (by simpa using hq1) (by have := hq3.length; simp at hql ⊢; (first | lia | omega)) ?_
        have hE1 := hE.own (x := .list (qs'.map .ref)) hq1 hNst (by simp)
        have tt : Tups S' (S'.set st (.list (qs'.map .ref))) := ((Ext.refl N S').own (x := .list (qs'.map .ref)) hq1 hNst (by simp)).tups
        have hP1 := hP.other (y := .list (qs'.map .ref)) (fun q => q.2 rfl) hq1 (by simp)
        have hta1 := hta.mono tt
        have hq4 : StkAt (S'.set st (.list (qs'.map .ref))) st q' := ⟨qs', PH.set_same .., hq3.mono fun _ _ x => x.mono tt⟩
        have hr1 := tt _ _ hr
        have hsts : (S'.set st (.list (qs'.map .ref))) st = some (.list (qs'.map .ref)) := PH.set_same ..
        clear hP hta hE hr hq3
        generalize S'.set st (.list (qs'.map .ref)) = S1 at *
        repeat tb_start
        have hokt : t.ok := hok' (t, tw) (by simp)
        have hwt' : k = qwt q' + t.wt := by rw [← hwt, qwt_app]; simp [qwt]
        have hqe : qevs a_ (w ++ Str.ofString "_struct") (q' ++ [(t, tw)]) = t.evs a_ tw (w ++ Str.ofString "_struct") ++ qevs a_ (w ++ Str.ofString "_struct") q' := by simp [qevs]
        rw [hqe, addAll_append] at hadd
        rcases t with (_ | kk) | ⟨x, y⟩
        · have h1 : S1 ta = some _ := hta1
          repeat tb_start
          refine hU (qwt q') _ _ (by simp [Tm.wt] at hwt'; (first | lia | omega)) ⟨K', q', c, hP1, hq4, hadd, rfl, fun e he => hok' e (by simp [he]), hlen', by simp [Tm.wt] at hwt'; (first | lia | omega), hE1, by tb_rel, by tb_rel, by tb_rel, by tb_rel⟩
        · have h1 : S1 ta = some _ := hta1
          obtain ⟨ep, hd'⟩ := hP1.dict
          repeat tb_start
          refine ⟨by simp, fun e he => ?_⟩
          repeat tb_start
          have hest : e ≠ st := by rintro rfl; rw [hsts] at he; cases he
          refine CallW_place hP1 ⟨hN _ (hE1.dom _ he), hest⟩ ⟨hokt.1, by have := hokt.2; (first | lia | omega)⟩ he fun K2 x S2 hx hxk P2 E2 hadd2 hlen2 => ?_
          obtain ⟨rs', hl1, hl2⟩ := P2.lists x hx
          have hle := hlen2 _ hlen'
          have hrl : (rs'.map Value.ref).length ≤ 200 := by rw [List.length_map, hl2.length]; (first | lia | omega)
          repeat tb_start
          refine ⟨by simp, fun e2 he2 => ?_⟩
          repeat tb_start
          have E3 := (E2.new (x := .tup [.int a_ 0, .str tw 0]) he2).own (x := .list (rs'.map .ref ++ [.ref e2])) (PH.keep_new he2 hl1) (P2.new x hx) (by simp)
          have P3 := (P2.mono (Le.new he2)).app (p := (a_, tw)) hx (PH.keep_new he2 hl1) (PH.set_same ..)
          have hk3 : kP (kApp K2 x.1 (a_, tw)) = addP (kP K') kk (a_, tw) := by rw [hxk]; exact hadd2 _
          refine hU (qwt q') _ _ (by simp [Tm.wt] at hwt'; (first | lia | omega)) ⟨_, q', c + 1, P3, ⟨qs', E3.keep _ _ (fun q => q.2 rfl) hsts, ?_⟩, ?_, rfl, fun e he => hok' e (by simp [he]), ?_, by simp [Tm.wt] at hwt'; (first | lia | omega), hE1.trans (E3.mono fun a h => h.1), by tb_rel, by tb_rel, by tb_rel, by tb_rel⟩
          · obtain ⟨rs2, g1, g2⟩ := hq4
            rw [hsts] at g1
            have : rs2.map Value.ref = qs'.map Value.ref := by injection g1 with g1; injection g1 with g1; exact g1.symm
            have := map_ref_inj this
            subst this
            exact g2.mono fun _ _ x => x.mono E3.tups
          · rw [hk3]; exact hadd
          · exact kP_bound (by rw [hk3]; exact addP_len (bound_kP hlen'))
        · obtain ⟨p', xa, ya, h1, h2, h3, h4⟩ := hta1
          repeat tb_start
          refine forK_rev (vs := [.ref xa, .ref ya]) (fun i S' m' => PlOk (fun a => N a ∧ a ≠ st) S' d K' ∧ StkAt S' st (q' ++ ([y, x].take i).map fun l => (Tm.lf l, w ++ Str.ofString "_struct")) ∧ Ext N S1 S' ∧ S' p' = some (.tup [.ref xa, .ref ya]) ∧
            m' (Str.ofString "places") = some (.ref d) ∧ m' (Str.ofString "at") = some (.int a_ 0) ∧ m' (Str.ofString "place") = some (.str w 0) ∧ m' (Str.ofString "stack") = some (.ref st)) (by tb_rel) (by simp) ?_ ?_ ?_ ?_
          · exact ⟨hP1, by simpa using hq4, Ext.refl _ _, h2, by tb_rel, by tb_rel, by tb_rel, by tb_rel⟩
          · rintro i S' m' ⟨_, _, _, h, _⟩; exact h
          · rintro i S' m' V hV hi ⟨hP, ⟨qs, hq1, hq2⟩, hE, hp', n1, n2, n3, n4⟩
            obtain ⟨r, l, hv, hl, hla⟩ : ∃ r l, ([Value.ref xa, Value.ref ya].reverse)[i]? = some (.ref r) ∧ [y, x][i]? = some l ∧ LfAt S1 r l := by
              have : i < 2 := by simpa using hi
              rcases i with _ | _ | i
              · exact ⟨ya, y, rfl, rfl, h4⟩
              · exact ⟨xa, x, rfl, rfl, h3⟩
              · (first | lia | omega)
            rw [getElem_of hv]
            have hqs : (qs.map Value.ref).length ≤ 300 := by rw [List.length_map, hq2.length]; simp at hql ⊢; (first | lia | omega)
            repeat tb_start
            refine ⟨by simp, fun e he => ?_⟩
            repeat tb_start
            have hE2 := hE.new (x := .tup [.ref r, .str (w ++ Str.ofString "_struct") 0]) he
            have hE3 := hE2.own (x := .list (qs.map .ref ++ [.ref e])) (PH.keep_new he hq1) hNst (by simp)
            have tt : Tups S' ((S'.set e (.tup [.ref r, .str (w ++ Str.ofString "_struct") 0])).set st (.list (qs.map .ref ++ [.ref e]))) := (((Ext.refl N S').new he).own (x := .list (qs.map .ref ++ [.ref e])) (PH.keep_new he hq1) hNst (by simp)).tups
            refine hV _ _ ⟨(hP.mono (Le.new he)).other (fun q => q.2 rfl) (PH.keep_new he hq1) (by simp), ⟨qs ++ [e], by rw [List.map_append]; exact PH.set_same .., ?_⟩, hE3, tt _ _ hp', by tb_rel, by tb_rel, by tb_rel, by tb_rel⟩
            rw [take_succ_get hl, List.map_append, ← List.append_assoc]
            refine (hq2.mono fun _ _ x => x.mono tt).append (.cons ⟨r, ?_, (hla.mono hE.tups).mono tt⟩ .nil)
            rw [PH.set_ne (by rintro rfl; rw [hq1] at he; cases he)]; exact PH.set_same ..
          · rintro S' m' ⟨hP, hq, hE, hp', n1, n2, n3, n4⟩
            repeat tb_start
            refine hU _ _ _ ?_ ⟨K', _, c, hP, hq, ?_, rfl, ?_, hlen', ?_, hE1.trans hE, n1, n2, n3, n4⟩
            · rw [qwt_app]; simp [qwt, Tm.wt] at hwt' ⊢; (first | lia | omega)
            · rw [← hadd]; simp [qevs, Tm.evs, addAll]
            · intro e he
              rcases List.mem_append.mp he with he | he
              · exact hok' e (by simp [he])
              · have : e = (Tm.lf y, w ++ Str.ofString "_struct") ∨ e = (Tm.lf x, w ++ Str.ofString "_struct") := by simpa using he
                rcases this with rfl | rfl
                · exact hokt.2
                · exact hokt.1
            · rw [qwt_app]; simp [qwt, Tm.wt] at hwt' ⊢; (first | lia | omega)
end
section
variable {D : Wd} {n : Nat} {S : PH}
set_option maxHeartbeats 1000000
theorem goalRows_ok : ∀ (l : List Gl) (b : Int), (∀ g ∈ l, g.ok) → ∀ e ∈ goalRows b l, e.2.2.length ≤ 3
  | [], b, _, e, he => by cases he
  | g :: l, b, hg, e, he => by
    rcases List.mem_cons.mp he with rfl | he
    · exact (hg g (List.mem_cons_self ..)).1
    · exact goalRows_ok l _ (fun x hx => hg x (.tail _ hx)) e he
theorem rowEvs_len (e : Row) : (rowEvs e).length ≤ 2 * e.2.2.length := by
  unfold rowEvs
  generalize e.2.2 = ts
  induction ts with
  | nil => simp
  | cons t ts ih =>
    have : (t.evs e.1 (e.2.1 ++ Str.ofString "_arg") (e.2.1 ++ Str.ofString "_struct")).length ≤ 2 := by
      rcases t with (_ | _) | ⟨(_ | _), (_ | _)⟩ <;> simp [Tm.evs, Lf.evs]
    simp only [List.flatMap_cons, List.length_append, List.length_cons]; (first | lia | omega)
theorem rows_len : ∀ (l : List Row), (∀ e ∈ l, e.2.2.length ≤ 3) → (l.flatMap rowEvs).length ≤ 6 * l.length
  | [], _ => by simp
  | e :: l, h => by
    have h1 := h e (List.mem_cons_self ..)
    have h2 := rowEvs_len e
    have := rows_len l (fun x hx => h x (.tail _ hx))
    simp only [List.flatMap_cons, List.length_append, List.length_cons]; (first | lia | omega)
theorem rows_ok {as : List Tm} {gs : List Gl} (wf : WfK as gs) : ∀ e ∈ rowsOf as gs, e.2.2.length ≤ 3 ∧ (∀ t ∈ e.2.2, t.ok) ∧ e.2.1.length ≤ 10 := by
  have key : ∀ (l : List Gl) (b : Int), (∀ g ∈ l, g.ok) → ∀ e ∈ goalRows b l, e.2.2.length ≤ 3 ∧ (∀ t ∈ e.2.2, t.ok) ∧ e.2.1.length ≤ 10 := by
    intro l
    induction l with
    | nil => intro b _ e he; cases he
    | cons g l ih =>
      intro b hg e he
      rcases List.mem_cons.mp he with rfl | he
      · exact ⟨(hg g (List.mem_cons_self ..)).1, (hg g (List.mem_cons_self ..)).2, (by decide : (Str.ofString "goal").length ≤ 10)⟩
      · exact ih _ (fun x hx => hg x (.tail _ hx)) e he
  intro e he
  rcases List.mem_cons.mp he with h | h
  · cases h; exact ⟨wf.as3, wf.aok, (by decide : (Str.ofString "head").length ≤ 10)⟩
  · exact key gs 0 wf.gok _ h
theorem row_lens {as : List Tm} {gs : List Gl} (wf : WfK as gs) (i : Nat) : (specs 0 gs ++ ((rowsOf as gs).take i).flatMap rowEvs).length ≤ 100 := by
  have l1 := specs_length gs 0
  have l3 := rows_len ((rowsOf as gs).take i) (fun e he => (rows_ok wf e (List.mem_of_mem_take he)).1)
  have l4 : ((rowsOf as gs).take i).length ≤ gs.length + 1 := by
    have := List.length_take_le i (rowsOf as gs)
    simp only [rowsOf, List.length_cons, goalRows_length] at this ⊢
    have := List.length_take_le' i ((-1, Str.ofString "head", as) :: goalRows 0 gs)
    simpa [goalRows_length] using this
  have := wf.gs4
  rw [List.length_append]
  (first | lia | omega)
theorem places_of_spec {kr : Addr} {as : List Tm} {gs : List Gl} (hk : KerAt S kr as gs) (wf : WfK as gs) : CallC D (n + 2) (.ref 63) [.ref kr] S fun v S' => ∃ d K, v = .ref d ∧ Le S S' ∧ PlOk (fun a => S a = none) S' d K ∧ kP K = placesOf as gs := by
  obtain ⟨pa, lg, rs, hkr, hpa, hlg, hrs⟩ := hk
  refine CallC_fn (fn_places_of _) loc_places_of rfl fun L env fe T hT => ?_
  change EX _ _ _ (execs [_, _, _, _, _] _) _ _ _
  simp only [locs]
  repeat tb_start
  intro d hd
  repeat tb_start
  refine ⟨by simp, fun t0 ht0 => ?_⟩
  repeat tb_start
  refine ⟨by simp, fun rw_ hrw => ?_⟩
  have hkr1 : S kr = _ := hkr
  have hrd : rw_ ≠ d := by rintro rfl; rw [PH.keep_new ht0 (PH.set_same ..)] at hrw; cases hrw
  have hSrw : S rw_ = none := by
    cases q : S rw_ with
    | none => rfl
    | some x => rw [PH.keep_new ht0 (PH.keep_new hd q)] at hrw; cases hrw
  have hlen : rs.length = gs.length := hrs.length
  have hgs := wf.gs4
  have N0 : ∀ a, ¬ ((fun a => S a = none ∧ a ≠ rw_) a) → S a = none → a = rw_ := by intro a h1 h2; by_cases q : a = rw_; exact q; exact absurd ⟨h2, q⟩ h1
  repeat tb_start
  refine forK_range gs.length (fun i S' m' => ∃ K ws, PlOk (fun a => S a = none ∧ a ≠ rw_) S' d K ∧ kP K = addAll [] (specs 0 (gs.take i)) ∧ S' rw_ = some (.list (ws.map .ref)) ∧ All2 (RowAt S') ws (rowsOf as (gs.take i)) ∧ Ext (fun a => S a = none) S S' ∧
    m' (Str.ofString "kernel") = some (.ref kr) ∧ m' (Str.ofString "places") = some (.ref d) ∧ m' (Str.ofString "rows") = some (.ref rw_)) (by simp [hlen]) (by (first | lia | omega)) ?_ ?_ ?_
  · refine ⟨[], [t0], ?_, rfl, PH.set_same .., ?_, ?_, by tb_rel, by tb_rel, by tb_rel⟩
    · exact ⟨⟨0, by rw [PH.set_ne hrd.symm]; exact PH.keep_new ht0 (PH.set_same ..)⟩, by simp, by simp, ⟨hd, hrd.symm⟩, by simp, .nil, .nil⟩
    · refine .cons ⟨pa, PH.keep_new hrw (PH.set_same ..), ?_⟩ .nil
      exact hpa.mono (Le.trans (Le.new hd) (Le.trans (Le.new ht0) (Le.new hrw))).tups
    · exact (Le.trans (Le.new hd) (Le.trans (Le.new ht0) (Le.new hrw))).ext
  · rintro i S' m' Ui hUi hi ⟨K, ws, hP, hK, hR, hrows, hE, hm1, hm2, hm3⟩
    have hkr' : S' kr = _ := hE.keep _ _ (by rw [hkr]; simp) hkr
    have hlg' : S' lg = _ := hE.keep _ _ (by rw [hlg]; simp) hlg
    obtain ⟨g, hg⟩ : ∃ g, gs[i]? = some g := ⟨gs[i], List.getElem?_eq_getElem hi⟩
    obtain ⟨r, hr, hga⟩ := hrs.get hg
    have hgok : g.ok := wf.gok g (List.mem_of_getElem? hg)
    repeat tb_start
    refine Sub_list_nat hlg' (by (first | lia | omega)) (by rw [List.getElem?_map, hr]; rfl) ?_ (by intro _; with_unfolding_all rfl)
    repeat tb_start
    refine CallW_do (goal_special_spec (hga.mono hE.tups)) fun v S'' z => ?_
    obtain ⟨e1, e2⟩ := z
    subst e1 e2
    repeat tb_start
    refine join_if (fun S2 m2 => ∃ K2, PlOk (fun a => S a = none ∧ a ≠ rw_) S2 d K2 ∧ kP K2 = addAll [] (specs 0 (gs.take (i + 1))) ∧ Ext (fun a => S a = none ∧ a ≠ rw_) S'' S2 ∧
        m2 (Str.ofString "kernel") = some (.ref kr) ∧ m2 (Str.ofString "places") = some (.ref d) ∧ m2 (Str.ofString "rows") = some (.ref rw_) ∧ m2 (Str.ofString "at") = some (.int (i : Int) 0) ∧ m2 (Str.ofString "goal") = some (.ref r)) ?_ ?_ ?_
    · intro V hV hsp
      have hsp : 0 ≤ g.special := by simpa using hsp
      have hsp6 : g.special = 6 := by cases g <;> simp_all [Gl.special]
      obtain ⟨ep, hd'⟩ := hP.dict
      repeat tb_start
      refine ⟨by simp, fun e he => ?_⟩
      repeat tb_start
      refine CallW_place hP ⟨hE.dom _ he, fun q => ?_⟩ (by (first | lia | omega)) he fun K' x S2 hx hxk P2 E2 hadd hlen2 => ?_
      · rw [q, hR] at he; cases he
      obtain ⟨rs', hl1, hl2⟩ := P2.lists x hx
      have hle := hlen2 _ (kP_len hK)
      have hsl := specs_length (gs.take i) 0
      have hrl : (rs'.map Value.ref).length ≤ 4 := by rw [List.length_map, hl2.length]; have := List.length_take_le i gs; (first | lia | omega)
      repeat tb_start
      refine ⟨by simp, fun t ht => ?_⟩
      repeat tb_start
      refine hV _ _ ⟨_, (P2.mono (Le.new ht)).app (p := ((i : Int), Str.ofString "special")) hx (PH.keep_new ht hl1) (PH.set_same ..), ?_, (E2.new ht).own (PH.keep_new ht hl1) (P2.new x hx) (by simp), by tb_rel, by tb_rel, by tb_rel, by tb_rel, by tb_rel⟩
      rw [hxk, hadd, hK, take_succ_get hg, specs_snoc, addAll_append]
      have e1 : (gs.take i).length = i := by rw [List.length_take]; (first | lia | omega)
      unfold spec1
      rw [if_pos hsp, e1]
      simp [addAll]
    · intro V hV hsp
      have hsp : ¬ 0 ≤ g.special := by simpa using hsp
      repeat tb_start
      refine hV _ _ ⟨K, hP, ?_, Ext.refl _ _, by tb_rel, by tb_rel, by tb_rel, by tb_rel, by tb_rel⟩
      rw [hK, take_succ_get hg, specs_snoc, addAll_append]
      unfold spec1
      rw [if_neg hsp]; rfl
    · rintro S2 m2 ⟨K2, P2, hK2, E2, hm1, hm2, hm3, hm4, hm5⟩
      have hR2 : S2 rw_ = _ := E2.keep _ _ (fun q => q.2 rfl) hR
      have hg2 : GlAt S2 r g := hga.mono (hE.trans (E2.mono fun a h => hE.dom a |> fun _ => h.1)).tups
      repeat tb_start
      refine CallW_do (goal_terms_spec hg2) fun v S3 z => ?_
      obtain ⟨p, e1, hle, htm⟩ := z
      subst e1
      have hR3 : S3 rw_ = _ := hle _ _ hR2
      have hws : (ws.map Value.ref).length ≤ 10 := by
        have := hrows.length
        rw [List.length_map, this]; simp [rowsOf, goalRows_length]; (first | lia | omega)
      repeat tb_start
      refine ⟨by simp, fun t ht => ?_⟩
      repeat tb_start
      have hnN : ¬ (S rw_ = none ∧ rw_ ≠ rw_) := fun q => q.2 rfl
      have E3 : Ext (fun a => S a = none) S (S3.set t (.tup [.int (i : Int) 0, .str (Str.ofString "goal") 0, .ref p])) := (hE.trans ((E2.mono fun a h => h.1).trans hle.ext)).new ht
      have E4 := E3.own (x := .list (ws.map .ref ++ [.ref t])) (PH.keep_new ht hR3) hSrw (by simp)
      refine hUi _ _ ⟨K2, ws ++ [t], ((P2.mono hle).mono (Le.new ht)).other hnN (PH.keep_new ht hR3) (by simp), hK2, by rw [List.map_append]; exact PH.set_same .., ?_, E4, by tb_rel, by tb_rel, by tb_rel⟩
      have tt : Tups S'' ((S3.set t (.tup [.int (i : Int) 0, .str (Str.ofString "goal") 0, .ref p])).set rw_ (.list (ws.map .ref ++ [.ref t]))) :=
        (((E2.mono (N' := fun a => S a = none) fun a h => h.1).trans hle.ext).new ht |>.own (x := .list (ws.map .ref ++ [.ref t])) (PH.keep_new ht hR3) hSrw (by simp)).tups
      have e0 : (gs.take i).length = i := by rw [List.length_take]; (first | lia | omega)
      rw [take_succ_get hg]
      unfold rowsOf
      rw [goalRows_snoc, e0]
      refine All2.append (as := ws) (bs := (-1, Str.ofString "head", as) :: goalRows 0 (gs.take i)) (hrows.mono fun _ _ x => x.mono tt) (.cons ⟨p, ?_, ?_⟩ .nil)
      · rw [PH.set_ne (by rintro rfl; rw [hR3] at ht; cases ht), PH.set_same]; simp
      · refine htm.mono fun a vs e => ?_
        have e2 := PH.keep_new (y := .tup [.int (i : Int) 0, .str (Str.ofString "goal") 0, .ref p]) ht e
        rw [PH.set_ne (by rintro rfl; rw [hR3] at e; cases e)]; exact e2
  · rintro S1 m1 ⟨K, ws, hP, hK, hR, hrows, hE, hm1, hm2, hm3⟩
    rw [List.take_of_length_le (Nat.le_refl _)] at hK hrows
    repeat tb_start
    have hrl := hrows.length
    have hr0 : (rowsOf as gs).length = gs.length + 1 := by simp [rowsOf, goalRows_length]
    have hNd : ∀ a, S1 a = none → (S a = none ∧ a ≠ rw_) := fun a h => ⟨hE.dom a h, by rintro rfl; rw [hR] at h; cases h⟩
    refine forK_list (vs := ws.map .ref) (fun i S' m' => ∃ K, PlOk (fun a => S a = none ∧ a ≠ rw_) S' d K ∧ kP K = addAll [] (specs 0 gs ++ ((rowsOf as gs).take i).flatMap rowEvs) ∧ S' rw_ = some (.list (ws.map .ref)) ∧ Ext (fun a => S a = none ∧ a ≠ rw_) S1 S' ∧
      m' (Str.ofString "places") = some (.ref d)) hR ?_ ?_ ?_ ?_
    · exact ⟨K, hP, by simpa using hK, hR, Ext.refl _ _, hm2⟩
    · rintro i S' m' ⟨_, _, _, h, _⟩; exact h
    · rintro i S' m' Ui hUi hi ⟨K', hP', hK', hR', hE', n1⟩
      obtain ⟨e, he⟩ : ∃ e, (rowsOf as gs)[i]? = some e := ⟨_, List.getElem?_eq_getElem (by simp at hi; (first | lia | omega))⟩
      obtain ⟨r, hr, ⟨p, hr1, hr2⟩⟩ := hrows.get he
      rw [getElem_of (show (ws.map Value.ref)[i]? = some (.ref r) by rw [List.getElem?_map, hr]; rfl)]
      have hr3 := hE'.tups _ _ hr1
      obtain ⟨a_, w, ts⟩ := e
      dsimp only at hr3 hr2
      have hmem : (a_, w, ts) ∈ rowsOf as gs := List.mem_of_getElem? he
      have hrow := rows_ok wf _ hmem
      have hlens := kP_len hK'
      have hll := row_lens wf i
      refine Stp_go ?_
      refine Asn_tup3 fe (by decide) (by decide) (by decide) hr3 ?_
      refine W_mono (row_body (K := K') (a_ := a_) (w := w) (ts := ts) (p := p) fe hP' (fun a h => hNd a (hE'.dom a h)) (hr2.mono hE'.tups) hrow.1 hrow.2.1 hrow.2.2 (fun e he => by have := hlens e he; (first | lia | omega)) (by tb_rel) (by tb_rel) (by tb_rel) (by tb_rel)) fun f S2 m2 z => ?_
      obtain ⟨ef, K2, hP2, hK2, hE2, hm⟩ := z
      cases f <;> first | cases ef | skip
      refine Turn_next (hUi _ _ ⟨K2, hP2, ?_, hE2.keep _ _ (fun q => q.2 rfl) hR', hE'.trans hE2, hm⟩)
      rw [hK2, hK', take_succ_get he, List.flatMap_append, ← List.append_assoc, addAll_append _ (specs 0 gs ++ _)]
      simp
    · rintro S2 m2 ⟨K', hP', hK', hR', hE', n1⟩
      repeat tb_start
      refine hT _ _ ⟨d, K', rfl, ?_, hP'.weaken fun a h => h.1, ?_⟩
      · intro a x ha
        have h1 : S1 a = some x := hE.keep a x (by rw [ha]; simp) ha
        exact hE'.keep a x (fun q => by rw [q.1] at ha; cases ha) h1
      · rw [hK']
        have : (rowsOf as gs).take (ws.map Value.ref).length = rowsOf as gs := List.take_of_length_le (by rw [List.length_map]; (first | lia | omega))
        rw [this]; rfl
end
section
variable {D : Wd} {n : Nat} {S : PH}
set_option maxHeartbeats 1000000

noncomputable def crossAt (gs : List Gl) (ps : List Pt) (i : Nat) : Bool := ((gs[i]?).map Gl.isCall).getD false && (ps.any fun p => decide (p.1 ≤ (i : Int))) && ps.any fun p => !decide (p.1 ≤ (i : Int))
noncomputable def crosses (gs : List Gl) (ps : List Pt) : Bool := (List.range gs.length).any (crossAt gs ps)

/-- goal[0] == 'call' -/
theorem gl_head {L : Addr} {m : Loc} {value slice : Expr} {r : Addr} {g : Gl} {Q : Value → PH → Loc → Prop} (hg : GlAt S r g) (h : ∀ w : Str, (w == Str.ofString "call") = g.isCall → Q (.str w 0) S m)
    (hs : ∀ u, subscripted slice false (.ref r) (.int 0 u) = operate [.ref r, .int 0 u] (getItem (.ref r) (.int 0 u))) : Sub D n L value slice (.ref r) (.int 0 0) S m Q := by
  cases g
  · obtain ⟨p, h1, _⟩ := hg; exact Sub_tup h1 (by decide) (by decide) rfl (h _ (by simp only [Gl.isCall]; decide)) hs
  · obtain ⟨p, h1, _⟩ := hg; exact Sub_tup h1 (by decide) (by decide) rfl (h _ (by simp only [Gl.isCall]; decide)) hs
  · obtain ⟨p, q, h1, _⟩ := hg; exact Sub_tup h1 (by decide) (by decide) rfl (h _ (by simp only [Gl.isCall]; decide)) hs
  all_goals
    have h1 : S r = _ := hg
    exact Sub_tup h1 (by decide) (by decide) rfl (h _ (by simp only [Gl.isCall]; decide)) hs

theorem range_any_succ (f : Nat → Bool) (i : Nat) : (List.range (i + 1)).any f = ((List.range i).any f || f i) := by rw [List.range_succ, List.any_append]; simp
theorem take_any_succ {α : Type} {l : List α} {f : α → Bool} {i : Nat} {a : α} (h : l[i]? = some a) : (l.take (i + 1)).any f = ((l.take i).any f || f a) := by rw [take_succ_get h, List.any_append]; simp

theorem crosses_spec {kr l : Addr} {as : List Tm} {gs : List Gl} {ps : List Pt} (hk : KerAt S kr as gs) (hl : PlAt S l ps) (hg4 : gs.length ≤ 4) : CallC D (n + 1) (.ref 70) [.ref kr, .ref l] S fun v S' => v = .bool (crosses gs ps) ∧ S' = S := by
  obtain ⟨pa, lg, rs, hkr, hpa, hlg, hrs⟩ := hk
  obtain ⟨qs, hl1, hl2⟩ := hl
  have hlen : rs.length = gs.length := hrs.length
  refine CallC_fn (fn_crosses_call _) loc_crosses_call rfl fun L env fe T hT => ?_
  change EX _ _ _ (execs [_, _] _) _ _ _
  simp only [locs]
  repeat tb_start
  refine forK_range gs.length (fun i S' m' => S' = S ∧ (List.range i).any (crossAt gs ps) = false ∧ m' (Str.ofString "kernel") = some (.ref kr) ∧ m' (Str.ofString "places") = some (.ref l)) (by simp [hlen]) (by (first | lia | omega)) ?_ ?_ ?_
  · exact ⟨rfl, rfl, by tb_rel, by tb_rel⟩
  · rintro i S' m' Ui hUi hi ⟨rfl, hno, n1, n2⟩
    obtain ⟨g, hg⟩ : ∃ g, gs[i]? = some g := ⟨gs[i], List.getElem?_eq_getElem hi⟩
    obtain ⟨r, hr, hga⟩ := hrs.get hg
    repeat tb_start
    refine Sub_list_nat hlg (by (first | lia | omega)) (by rw [List.getElem?_map, hr]; rfl) ?_ (by intro _; with_unfolding_all rfl)
    repeat tb_start
    refine gl_head hga (fun w hw => ?_) (by intro _; with_unfolding_all rfl)
    repeat tb_start
    rw [hw]
    cases hc : g.isCall
    · refine ite_f rfl ?_
      repeat tb_start
      refine hUi _ _ ⟨rfl, ?_, by tb_rel, by tb_rel⟩
      rw [range_any_succ, hno]; simp [crossAt, hg, hc]
    · refine ite_t rfl ?_
      repeat tb_start
      have hll : (qs.map Value.ref).length = ps.length := by rw [List.length_map, hl2.length]
      refine forK_list (fun j S2 m2 => S2 = S' ∧ m2 (Str.ofString "kernel") = some (.ref kr) ∧ m2 (Str.ofString "places") = some (.ref l) ∧ m2 (Str.ofString "at") = some (.int (i : Int) 0) ∧
        m2 (Str.ofString "before") = some (.bool ((ps.take j).any fun p => decide (p.1 ≤ (i : Int)))) ∧ m2 (Str.ofString "behind") = some (.bool ((ps.take j).any fun p => !decide (p.1 ≤ (i : Int))))) hl1 ?_ ?_ ?_ ?_
      · exact ⟨rfl, by tb_rel, by tb_rel, by tb_rel, by simp only [List.take_zero, List.any_nil]; tb_rel, by simp only [List.take_zero, List.any_nil]; tb_rel⟩
      · rintro j S2 m2 ⟨rfl, _⟩; exact hl1
      · rintro j S2 m2 Uj hUj hj ⟨rfl, k1, k2, k3, k4, k5⟩
        obtain ⟨p, hp⟩ : ∃ p, ps[j]? = some p := ⟨_, List.getElem?_eq_getElem (by (first | lia | omega))⟩
        obtain ⟨q, hq, hqt⟩ := hl2.get hp
        rw [getElem_of (show (qs.map Value.ref)[j]? = some (.ref q) by rw [List.getElem?_map, hq]; rfl)]
        rw [take_any_succ hp, take_any_succ hp] at hUj
        repeat tb_start
        cases hd : decide (p.1 ≤ (i : Int))
        · refine ite_f rfl ?_
          repeat tb_start
          exact hUj _ _ ⟨rfl, by tb_rel, by tb_rel, by tb_rel, by rw [hd, Bool.or_false]; tb_rel, by rw [hd, Bool.not_false, Bool.or_true]; tb_rel⟩
        · refine ite_t rfl ?_
          repeat tb_start
          exact hUj _ _ ⟨rfl, by tb_rel, by tb_rel, by tb_rel, by rw [hd, Bool.or_true]; tb_rel, by rw [hd, Bool.not_true, Bool.or_false]; tb_rel⟩
      · rintro S2 m2 ⟨rfl, k1, k2, k3, k4, k5⟩
        rw [hll, List.take_of_length_le (Nat.le_refl _)] at k4 k5
        have hcr : crossAt gs ps i = ((ps.any fun p => decide (p.1 ≤ (i : Int))) && ps.any fun p => !decide (p.1 ≤ (i : Int))) := by simp [crossAt, hg, hc]
        repeat tb_start
        cases hb : ps.any fun p => decide (p.1 ≤ (i : Int))
        · rw [hb] at hcr
          repeat tb_start
          exact hUi _ _ ⟨rfl, by rw [range_any_succ, hno, hcr]; rfl, by tb_rel, by tb_rel⟩
        · rw [hb] at hcr
          repeat tb_start
          cases hb2 : ps.any fun p => !decide (p.1 ≤ (i : Int))
          · rw [hb2] at hcr
            repeat tb_start
            exact hUi _ _ ⟨rfl, by rw [range_any_succ, hno, hcr]; rfl, by tb_rel, by tb_rel⟩
          · rw [hb2] at hcr
            repeat tb_start
            refine hT _ _ ⟨?_, rfl⟩
            have : crosses gs ps = true := List.any_eq_true.mpr ⟨i, List.mem_range.mpr hi, by rw [hcr]; rfl⟩
            rw [this]
  · rintro S' m' ⟨rfl, hno, n1, n2⟩
    repeat tb_start
    exact hT _ _ ⟨by unfold crosses; rw [hno], rfl⟩

noncomputable def firstWord (ps : List Pt) : Str := match ps with
  | [] => Str.ofString ""
  | p :: r => (r.foldl (fun (b : Pt) q => if q.1 < b.1 then q else b) p).2
theorem first_word_spec {l : Addr} {ps : List Pt} (hl : PlAt S l ps) (hne : ps ≠ []) : CallC D (n + 1) (.ref 87) [.ref l] S fun v S' => v = .str (firstWord ps) 0 ∧ S' = S := by
  obtain ⟨qs, hl1, hl2⟩ := hl
  have hll : (qs.map Value.ref).length = ps.length := by rw [List.length_map, hl2.length]
  refine CallC_fn (fn_first_word _) loc_first_word rfl fun L env fe T hT => ?_
  change EX _ _ _ (execs [_, _, _] _) _ _ _
  simp only [locs]
  cases ps with
  | nil => exact absurd rfl hne
  | cons p0 ps0 =>
    obtain ⟨q0, hq0, hqt0⟩ := hl2.get (i := 0) rfl
    repeat tb_start
    refine Sub_list hl1 (by decide) (by decide) (v := .ref q0) (by rw [List.getElem?_map]; show (qs[0]?).map _ = _; rw [hq0]; rfl) ?_ (by intro _; with_unfolding_all rfl)
    repeat tb_start
    refine forK_list (fun j S2 m2 => S2 = S ∧ m2 (Str.ofString "places") = some (.ref l) ∧ ∃ b qb, m2 (Str.ofString "best") = some (.ref qb) ∧ S qb = some (.tup [.int b.1 0, .str b.2 0]) ∧ b = ((p0 :: ps0).take j).foldl (fun (b : Pt) q => if q.1 < b.1 then q else b) p0) hl1 ?_ ?_ ?_ ?_
    · exact ⟨rfl, by tb_rel, p0, q0, by tb_rel, hqt0, rfl⟩
    · rintro j S2 m2 ⟨rfl, _⟩; exact hl1
    · rintro j S2 m2 Uj hUj hj ⟨rfl, k1, b, qb, k2, hqb, hb⟩
      obtain ⟨p, hp⟩ : ∃ p, (p0 :: ps0)[j]? = some p := ⟨_, List.getElem?_eq_getElem (by (first | lia | omega))⟩
      obtain ⟨q, hq, hqt⟩ := hl2.get hp
      rw [getElem_of (show (qs.map Value.ref)[j]? = some (.ref q) by rw [List.getElem?_map, hq]; rfl)]
      rw [take_succ_get hp, List.foldl_append, ← hb] at hUj
      repeat tb_start
      cases hd : decide (p.1 < b.1)
      · refine ite_f rfl ?_
        repeat tb_start
        have : ¬ p.1 < b.1 := by simpa using hd
        exact hUj _ _ ⟨rfl, by tb_rel, b, qb, by tb_rel, hqb, by simp [this]⟩
      · refine ite_t rfl ?_
        repeat tb_start
        have : p.1 < b.1 := by simpa using hd
        exact hUj _ _ ⟨rfl, by tb_rel, p, q, by tb_rel, hqt, by simp [this]⟩
    · rintro S2 m2 ⟨rfl, k1, b, qb, k2, hqb, hb⟩
      rw [hll, List.take_of_length_le (Nat.le_refl _)] at hb
      repeat tb_start
      refine hT _ _ ⟨?_, rfl⟩
      rw [hb]
      simp [firstWord]

noncomputable def chunkNums : Int → List Gl → List Int
  | _, [] => []
  | c, g :: r => c :: chunkNums (if g.isCall then c + 1 else c) r
end
section
variable {D : Wd} {n : Nat} {S : PH}
set_option maxHeartbeats 1000000

theorem chunk_numbers_spec {lg : Addr} {rs : List Addr} {gs : List Gl} (hlg : S lg = some (.list (rs.map .ref))) (hrs : All2 (GlAt S) rs gs) (h4 : gs.length ≤ 4) :
    CallC D (n + 1) (.ref 199) [.ref lg] S fun v S' => ∃ l, v = .ref l ∧ S l = none ∧ S' = S.set l (.list (iL (chunkNums 0 gs))) := by
  have hll : (rs.map Value.ref).length = gs.length := by rw [List.length_map, hrs.length]
  refine CallC_fn (fn_chunk_numbers _) loc_chunk_numbers rfl fun L env fe T hT => ?_
  change EX _ _ _ (execs [_, _, _, _] _) _ _ _
  simp only [locs]
  repeat tb_start
  refine ⟨by simp, fun l hl => ?_⟩
  repeat tb_start
  have key : ∀ (a b : List Gl) (c : Int), chunkNums c (a ++ b) = chunkNums c a ++ chunkNums (c + (a.filter Gl.isCall).length) b := by
    intro a
    induction a with
    | nil => intro b c; simp [chunkNums]
    | cons g a ih =>
      intro b c
      rw [List.cons_append, chunkNums, chunkNums, ih]
      cases hc : g.isCall <;> simp [hc, List.filter_cons]
      congr 1; (first | lia | omega)
  refine forK_list (fun j S2 m2 => S2 = S.set l (.list (iL (chunkNums 0 (gs.take j)))) ∧ m2 (Str.ofString "chunks") = some (.ref l) ∧ m2 (Str.ofString "chunk") = some (.int (((gs.take j).filter Gl.isCall).length : Int) 0)) (by tb_rel) ?_ ?_ ?_ ?_
  · exact ⟨rfl, by tb_rel, Loc.set_same _ _ _⟩
  · rintro j S2 m2 ⟨rfl, _⟩; exact PH.keep_new hl hlg
  · rintro j S2 m2 Uj hUj hj ⟨rfl, k1, k2⟩
    obtain ⟨g, hg⟩ : ∃ g, gs[j]? = some g := ⟨_, List.getElem?_eq_getElem (by (first | lia | omega))⟩
    obtain ⟨r, hr, hga⟩ := hrs.get hg
    have hga' : GlAt (S.set l (.list (iL (chunkNums 0 (gs.take j))))) r g := hga.mono (Le.new hl).tups
    rw [getElem_of (show (rs.map Value.ref)[j]? = some (.ref r) by rw [List.getElem?_map, hr]; rfl)]
    have hcl : ∀ (l : List Gl) c, (chunkNums c l).length = l.length := by
      intro l; induction l with
      | nil => intro c; rfl
      | cons g l ih => intro c; simp [chunkNums, ih]
    have hsz : (iL (chunkNums 0 (gs.take j))).length ≤ 10 := by rw [iL_length, hcl, List.length_take]; (first | lia | omega)
    have hnext : iL (chunkNums 0 (gs.take j)) ++ [.int (((gs.take j).filter Gl.isCall).length : Int) 0] = iL (chunkNums 0 (gs.take (j + 1))) := by
      rw [take_succ_get hg, key]; simp [iL, chunkNums]
    repeat tb_start
    rw [set_set, hnext]
    refine gl_head (S := S.set l (.list (iL (chunkNums 0 (gs.take (j + 1)))))) (hga.mono (Le.new hl).tups) (fun w hw => ?_) (by intro _; with_unfolding_all rfl)
    repeat tb_start
    rw [hw]
    cases hc : g.isCall
    · refine ite_f rfl ?_
      repeat tb_start
      refine hUj _ _ ⟨rfl, by tb_rel, ?_⟩
      rw [take_succ_get hg, List.filter_append]; simp only [List.filter_cons, hc, List.filter_nil, List.append_nil]; simp only [Bool.false_eq_true, if_false, List.append_nil]; tb_rel
    · refine ite_t rfl ?_
      repeat tb_start
      refine hUj _ _ ⟨rfl, by tb_rel, ?_⟩
      rw [take_succ_get hg, List.filter_append]; simp only [List.filter_cons, hc, List.filter_nil, List.length_append, if_true, List.length_singleton]
      exact (Loc.set_same _ _ _).trans (by simp)
  · rintro S2 m2 ⟨rfl, k1, k2⟩
    repeat tb_start
    refine hT _ _ ⟨l, rfl, hl, ?_⟩
    rw [hll, List.take_of_length_le (Nat.le_refl _)]

noncomputable def kindOf (v : Vi) : Str := if v.count = 1 then Str.ofString "void" else if v.fc < v.lc then Str.ofString "perm" else Str.ofString "temp"
theorem kind_of_spec {a : Addr} {v : Vi} (ha : S a = some (.inst 132 v.fs)) : CallC D (n + 1) (.ref 241) [.ref a] S fun u S' => u = .str (kindOf v) 0 ∧ S' = S := by
  refine CallC_fn (fn_kind_of _) loc_kind_of rfl fun L env fe T hT => ?_
  change EX _ _ _ (execs [_, _, _] _) _ _ _
  simp only [locs]
  repeat tb_start
  unfold kindOf at hT
  cases h1 : v.count == 1
  · have e1 : ¬ v.count = 1 := by simpa using h1
    rw [if_neg e1] at hT
    repeat tb_start
    cases h2 : decide (v.fc < v.lc)
    · have e2 : ¬ v.fc < v.lc := by simpa using h2
      rw [if_neg e2] at hT
      repeat tb_start
      exact hT _ _ ⟨rfl, rfl⟩
    · have e2 : v.fc < v.lc := by simpa using h2
      rw [if_pos e2] at hT
      repeat tb_start
      exact hT _ _ ⟨rfl, rfl⟩
  · have e1 : v.count = 1 := by simpa using h1
    rw [if_pos e1] at hT
    repeat tb_start
    exact hT _ _ ⟨rfl, rfl⟩

noncomputable def isMax (ps : List Pt) (k : Int) : Bool := (ps.any fun p => p.1 == k) && ps.all fun p => decide (p.1 ≤ k)
noncomputable def chkVar (gs : List Gl) (k : Int) (ps : List Pt) (v : Vi) : Bool :=
  v.var == k && v.first == firstWord ps && isMax ps v.last && ((v.kind == Str.ofString "void") == ((ps.length : Int) == 1)) && ((v.kind == Str.ofString "perm") == crosses gs ps) &&
  ([Str.ofString "void", Str.ofString "perm", Str.ofString "temp"].any (· == v.kind)) && !(v.kind != Str.ofString "perm" && (v.slot != 0 || v.uns)) && (v.kind != Str.ofString "perm" || v.uns == (v.first == Str.ofString "goal_arg"))

theorem isMax_of {ps : List Pt} {M k : Int} (h1 : M ∈ ps.map (·.1)) (h2 : ∀ a ∈ ps.map (·.1), a ≤ M) : isMax ps k = (k == M) := by
  unfold isMax
  cases hq : k == M
  · have hne : k ≠ M := by simpa using hq
    rw [Bool.and_eq_false_iff]
    by_cases hx : ∃ p ∈ ps, p.1 = k
    · right
      obtain ⟨p, hp, e⟩ := hx
      have := h2 p.1 (List.mem_map.mpr ⟨p, hp, rfl⟩)
      obtain ⟨q, hq, e2⟩ := List.mem_map.mp h1
      rw [List.all_eq_false]
      exact ⟨q, hq, by simp; (first | lia | omega)⟩
    · left
      rw [List.any_eq_false]
      intro p hp; simp; exact fun e => hx ⟨p, hp, e⟩
  · have e : k = M := by simpa using hq
    subst e
    rw [Bool.and_eq_true, List.any_eq_true, List.all_eq_true]
    obtain ⟨q, hq, e2⟩ := List.mem_map.mp h1
    exact ⟨⟨q, hq, by simpa using e2⟩, fun p hp => by simpa using h2 p.1 (List.mem_map.mpr ⟨p, hp, rfl⟩)⟩
theorem check_variable_spec {kr l a : Addr} {as : List Tm} {gs : List Gl} {ps : List Pt} {k : Int} {v : Vi} (hk : KerAt S kr as gs) (hl : PlAt S l ps) (hne : ps ≠ []) (ha : S a = some (.inst 132 v.fs)) (hg4 : gs.length ≤ 4) (hps : ps.length ≤ 1000) :
    CallC D (n + 2) (.ref 80) [.ref kr, .int k 0, .ref l, .ref a] S fun u S' => u = .bool (chkVar gs k ps v) ∧ S' = S := by
  refine CallC_shrink (CallC_fn (fn_check_variable _) loc_check_variable rfl fun L env fe T hT => ?_)
  change EX _ _ _ (execs [_, _, _, _, _, _, _, _] _) _ _ _
  simp only [locs]
  repeat tb_start
  refine CallW_do (crosses_spec hk hl hg4) fun u S' z => ?_
  obtain ⟨e1, e2⟩ := z
  subst e1 e2
  obtain ⟨qs, hl1, hl2⟩ := id hl
  have hll : (qs.map Value.ref).length = ps.length := by rw [List.length_map, hl2.length]
  repeat tb_start
  cases h1 : v.var != k
  case true =>
    repeat tb_start
    have : v.var ≠ k := by simpa using h1
    exact hT _ _ ⟨_, Le.refl _, by simp [chkVar, this], rfl⟩
  have g1 : v.var = k := by simpa using h1
  refine ite_f rfl ?_
  repeat tb_start
  refine CallW_do (first_word_spec hl hne) fun u S'' z => ?_
  obtain ⟨e1, e2⟩ := z
  subst e1 e2
  repeat tb_start
  cases h2 : v.first != firstWord ps
  case true =>
    repeat tb_start
    have : v.first ≠ firstWord ps := by simpa using h2
    exact hT _ _ ⟨_, Le.refl _, by simp [chkVar, this], rfl⟩
  have g2 : v.first = firstWord ps := by simpa using h2
  repeat tb_start
  refine EV_comp fe (clos_none (by decide)) (by decide) rfl (by decide) (by decide) (by rfl) (fun _ => rfl) ?_
  repeat tb_start
  refine PyI_list hl1 fun I oI hI hst => ?_
  refine ⟨_, _, _, _, oI, iterList l (qs.map .ref), PH.set_same .., hst, by rw [hll]; (first | lia | omega), selfs_list l, fun i vs S2 => S2 = S'' ∧ vs = iL ((ps.take i).map (·.1)), ⟨erase_set hI, rfl⟩, fun i vs S2 h => by rw [h.1]; exact hl1, ?_, ?_⟩
  · rintro i vs S2 C cenv mC fe' hcl hi ⟨rfl, rfl⟩ hx
    obtain ⟨p, hp⟩ : ∃ p, ps[i]? = some p := ⟨_, List.getElem?_eq_getElem (by (first | lia | omega))⟩
    obtain ⟨q, hq, hqt⟩ := hl2.get hp
    have hx : mC (Str.ofString "place") = some (.ref q) := by rw [hx, List.getElem?_map, hq]; rfl
    have fe2 : FE C [(Str.ofString ".0", NameKind.local), (Str.ofString "place", NameKind.local)] cenv := fe'
    refine EV_sub ?_
    refine EV_local fe2 (by decide) hx ?_
    repeat tb_start
    exact ⟨rfl, by rw [take_succ_get hp]; simp [iL]⟩
  rintro vs S2 c hc ⟨rfl, rfl⟩
  rw [hll, List.take_of_length_le (Nat.le_refl _)]
  repeat tb_start
  refine CallW_max (ns := ps.map (·.1)) (PH.set_same ..) (by simp; exact List.length_pos_iff.mpr hne) fun M hM hMx => ?_
  have hmx := fun k => isMax_of (k := k) hM hMx
  have ha1 : (S2.set c (.list (iL (ps.map (·.1))))) a = _ := PH.keep_new hc ha
  have hl3 : (S2.set c (.list (iL (ps.map (·.1))))) l = _ := PH.keep_new hc hl1
  have hle : Le S2 (S2.set c (.list (iL (ps.map (·.1))))) := Le.new hc
  generalize S2.set c (.list (iL (ps.map (·.1)))) = S3 at *
  repeat tb_start
  cases h3 : v.last != M
  case true =>
    repeat tb_start
    have : ¬ v.last = M := by simpa using h3
    exact hT _ _ ⟨_, hle, by simp [chkVar, hmx, this], rfl⟩
  have g3 : v.last = M := by simpa using h3
  repeat tb_start
  rw [hll]
  cases h4 : ((v.kind == Str.ofString "void") != ((ps.length : Int) == 1))
  case true =>
    repeat tb_start
    have : ((v.kind == Str.ofString "void") == ((ps.length : Int) == 1)) = false := by rw [bne] at h4; simpa using h4
    exact hT _ _ ⟨_, hle, by simp only [chkVar, this]; simp, rfl⟩
  have g4 : ((v.kind == Str.ofString "void") == ((ps.length : Int) == 1)) = true := by rw [bne] at h4; simpa using h4
  repeat tb_start
  cases h5 : ((v.kind == Str.ofString "perm") != crosses gs ps)
  case true =>
    repeat tb_start
    have : ((v.kind == Str.ofString "perm") == crosses gs ps) = false := by rw [bne] at h5; simpa using h5
    exact hT _ _ ⟨_, hle, by simp only [chkVar, this]; simp, rfl⟩
  have g5 : ((v.kind == Str.ofString "perm") == crosses gs ps) = true := by rw [bne] at h5; simpa using h5
  repeat tb_start
  refine ⟨by simp, fun tt ht => ?_⟩
  have ha2 : (S3.set tt (.tup [.str (Str.ofString "void") 0, .str (Str.ofString "perm") 0, .str (Str.ofString "temp") 0])) a = _ := PH.keep_new ht ha1
  have hle2 := hle.trans (Le.new (x := .tup [.str (Str.ofString "void") 0, .str (Str.ofString "perm") 0, .str (Str.ofString "temp") 0]) ht)
  have ht2 := PH.set_same S3 tt (.tup [.str (Str.ofString "void") 0, .str (Str.ofString "perm") 0, .str (Str.ofString "temp") 0])
  clear ha1 hl3 hle
  generalize S3.set tt (.tup [.str (Str.ofString "void") 0, .str (Str.ofString "perm") 0, .str (Str.ofString "temp") 0]) = S4 at *
  refine Cmp_notin_strs (ys := [Str.ofString "void", Str.ofString "perm", Str.ofString "temp"]) ht2 rfl ?_
  refine Tru_bool ?_
  cases h6 : [Str.ofString "void", Str.ofString "perm", Str.ofString "temp"].any (· == v.kind)
  case false =>
    repeat tb_start
    exact hT _ _ ⟨_, hle2, by simp only [chkVar, h6]; simp, rfl⟩
  repeat tb_start
  have base : chkVar gs k ps v = (!(v.kind != Str.ofString "perm" && (v.slot != 0 || v.uns)) && (v.kind != Str.ofString "perm" || v.uns == (v.first == Str.ofString "goal_arg"))) := by
    unfold chkVar; rw [hmx, g4, g5, h6, g3]; simp [g1, g2]
  have fin : ∀ b : Bool, b = chkVar gs k ps v → ∃ S'', (∀ b x, S'' b = some x → S4 b = some x) ∧ Value.bool b = .bool (chkVar gs k ps v) ∧ S'' = S2 := fun b e => ⟨_, hle2, by rw [e], rfl⟩
  cases h7 : v.kind != Str.ofString "perm"
  case false =>
    rw [h7] at base
    have h7' : v.kind = Str.ofString "perm" := by simpa using h7
    repeat tb_start
    rw [h7]
    repeat tb_start
    exact hT _ _ (fin _ (by rw [base]; simp))
  rw [h7] at base
  repeat tb_start
  cases h8 : v.slot != 0
  case true =>
    rw [h8] at base
    repeat tb_start
    exact hT _ _ (fin _ (by rw [base]; simp))
  rw [h8] at base
  repeat tb_start
  cases h9 : v.uns
  case true =>
    rw [h9] at base
    repeat tb_start
    exact hT _ _ (fin _ (by rw [base]; simp))
  rw [h9] at base
  repeat tb_start
  rw [h7]
  repeat tb_start
  exact hT _ _ (fin _ (by rw [base]; simp))
end
section
variable {D : Wd} {n : Nat} {S : PH}
set_option maxHeartbeats 1000000

abbrev KVi := List (Int × Addr × Vi)
noncomputable def vDict (K : KVi) : List (Int × Value) := K.map fun e => (e.1, .ref e.2.1)
structure PlanAt (S : PH) (pl di lc ll : Addr) (K : KVi) (ch live : List Int) (needs : Bool) (env : Int) : Prop where
  obj : S pl = some (.inst 188 (pfs di lc needs env ll))
  infos : ∃ ep, S di = some (.dict (vDict K) ep)
  vis : ∀ e ∈ K, S e.2.1 = some (.inst 132 e.2.2.fs)
  chunks : S lc = some (.list (iL ch))
  live : S ll = some (.list (iL live))
  ks : (K.map (·.1)).Nodup
  ad : (K.map (·.2.1)).Nodup
theorem PlanAt.mono {S S' : PH} {pl di lc ll : Addr} {K : KVi} {ch live : List Int} {needs : Bool} {env : Int} (h : PlanAt S pl di lc ll K ch live needs env) (k : Le S S') : PlanAt S' pl di lc ll K ch live needs env :=
  ⟨k _ _ h.obj, let ⟨ep, e⟩ := h.infos; ⟨ep, k _ _ e⟩, fun e he => k _ _ (h.vis e he), k _ _ h.chunks, k _ _ h.live, h.ks, h.ad⟩
theorem valueAt_vDict (K : KVi) (k : Int) : valueAt (vDict K) k = (K.find? fun e => decide (e.1 = k)).map fun e => Value.ref e.2.1 := by
  unfold valueAt vDict
  induction K with
  | nil => rfl
  | cons e r ih =>
    rw [List.map_cons, List.find?_cons, List.find?_cons]
    by_cases h : e.1 = k
    · simp [h]
    · simp only [h, decide_false]; exact ih
theorem find_of_mem {K : KVi} (hn : (K.map (·.1)).Nodup) {e : Int × Addr × Vi} (he : e ∈ K) : K.find? (fun x => decide (x.1 = e.1)) = some e := by
  cases q : K.find? (fun x => decide (x.1 = e.1)) with
  | none => rw [List.find?_eq_none] at q; exact absurd (by simp) (q e he)
  | some x =>
    have h1 : x.1 = e.1 := by simpa using List.find?_some q
    rw [nodup_inj hn (List.mem_of_find?_eq_some q) he h1]
theorem find_pl {K : KPl} (hn : (K.map (·.1)).Nodup) {e : Int × Addr × List Pt} (he : e ∈ K) : K.find? (fun x => decide (x.1 = e.1)) = some e := by
  cases q : K.find? (fun x => decide (x.1 = e.1)) with
  | none => rw [List.find?_eq_none] at q; exact absurd (by simp) (q e he)
  | some x =>
    have h1 : x.1 = e.1 := by simpa using List.find?_some q
    rw [nodup_inj hn (List.mem_of_find?_eq_some q) he h1]

/-! the check of the goals, plainly -/
abbrev Infos := List (Int × Vi)
noncomputable def kV (K : KVi) : Infos := K.map fun e => (e.1, e.2.2)
noncomputable def getV (I : Infos) (k : Int) : Option Vi := (I.find? fun e => decide (e.1 = k)).map (·.2)
theorem getV_kV (K : KVi) (k : Int) : getV (kV K) k = (K.find? fun e => decide (e.1 = k)).map (·.2.2) := by
  unfold getV kV
  induction K with
  | nil => rfl
  | cons e r ih =>
    rw [List.map_cons, List.find?_cons, List.find?_cons]
    by_cases h : e.1 = k
    · simp [h]
    · simp only [h, decide_false]; exact ih
noncomputable def sPerm : Str := Str.ofString "perm"
noncomputable def liveOk1 (I : Infos) (at_ : Nat) (lv : Int) (e : Int × List Pt) : Bool := match getV I e.1 with
  | none => true
  | some v => v.kind != Str.ofString "perm" || ((e.2.any fun p => decide ((at_ : Int) < p.1)) == decide (v.slot ≤ lv))
noncomputable def callsBefore (gs : List Gl) (i : Nat) : Int := (((gs.take i).filter Gl.isCall).length : Int)
noncomputable def goalOk (P : Pls) (I : Infos) (gs : List Gl) (ch live : List Int) (env : Int) (i : Nat) : Bool := match ch[i]?, live[i]? with
  | some c, some lv => (c == callsBefore gs i) && P.all (liveOk1 I i lv) && !decide (lv < 0) && !decide (env < lv)
  | _, _ => false
noncomputable def innerAt (gs : List Gl) (i : Nat) : Bool := ((gs[i]?).map Gl.isCall).getD false && (i : Int) != (gs.length : Int) - 1
noncomputable def inner (gs : List Gl) : Bool := (List.range gs.length).any (innerAt gs)
noncomputable def chkGoals (P : Pls) (I : Infos) (gs : List Gl) (ch live : List Int) (needs : Bool) (env : Int) : Bool :=
  ch.length == gs.length && live.length == gs.length && (List.range gs.length).all (goalOk P I gs ch live env) && (needs == inner gs)
theorem range_all_succ (f : Nat → Bool) (i : Nat) : (List.range (i + 1)).all f = ((List.range i).all f && f i) := by rw [List.range_succ, List.all_append]; simp
theorem take_all_succ {α : Type} {l : List α} {f : α → Bool} {i : Nat} {a : α} (h : l[i]? = some a) : (l.take (i + 1)).all f = ((l.take i).all f && f a) := by rw [take_succ_get h, List.all_append]; simp

noncomputable def cgLoop (P : Params) : Option Stmt := (forBody ((bodyOf P 94)[3]?))[4]?
/-- the loop over the places at one goal -/
theorem cg_loop {L : Addr} {env : Env} {m : Loc} {rest : List Stmt} {R : Flow → PH → Loc → Prop} {N : Addr → Prop} {d pl di lc ll lg : Addr} {Kp : KPl} {K : KVi} {ch live : List Int} {needs : Bool} {ev : Int} {i : Nat} {lv : Int} {target iter : Expr} {body : List Stmt} {pos : Pos} (hst : cgLoop D.w.params = some (.For target iter body [] pos))
    (fe : FE L nm_check_goals env) (P : PlOk N S d Kp) (hP : PlanAt S pl di lc ll K ch live needs ev) (hin : ∀ e ∈ Kp, ∃ x ∈ K, x.1 = e.1) (hlv : live[i]? = some lv) (hi : i < 1000) (hlen : ∀ e ∈ Kp, e.2.2.length ≤ 1000)
    (m1 : m (Str.ofString "places") = some (.ref d)) (m2 : m (Str.ofString "plan") = some (.ref pl)) (m3 : m (Str.ofString "at") = some (.int (i : Int) 0))
    (m4 : m (Str.ofString "goals") = some (.ref lg)) (b : Bool) (m5 : m (Str.ofString "inner_call") = some (.bool b))
    (hbad : (kP Kp).all (liveOk1 (kV K) i lv) = false → R (.ret (.bool false)) S m)
    (hRm : ∀ m', R (.ret (.bool false)) S m → R (.ret (.bool false)) S m')
    (hgo : (kP Kp).all (liveOk1 (kV K) i lv) = true → ∀ m', m' (Str.ofString "places") = some (.ref d) → m' (Str.ofString "plan") = some (.ref pl) → m' (Str.ofString "at") = some (.int (i : Int) 0) → m' (Str.ofString "goals") = some (.ref lg) → m' (Str.ofString "inner_call") = some (.bool b) →
      EX D n L (execs rest env) S m' R) : PyI D n L (.ref d) S m (ForK D n L env target body rest R) := by
  obtain ⟨ep, hd⟩ := P.dict
  obtain ⟨ep2, hdi⟩ := hP.infos
  have hpl := hP.obj
  have hll := hP.live
  have hst := Option.some.inj hst
  injection hst with h1 h2 h3 h4 h5
  subst h1 h3
  refine forK_dict (fun j S2 m2 => S2 = S ∧ ((kP Kp).take j).all (liveOk1 (kV K) i lv) = true ∧ m2 (Str.ofString "places") = some (.ref d) ∧ m2 (Str.ofString "plan") = some (.ref pl) ∧ m2 (Str.ofString "at") = some (.int (i : Int) 0) ∧ m2 (Str.ofString "goals") = some (.ref lg) ∧ m2 (Str.ofString "inner_call") = some (.bool b)) hd ?_ ?_ ?_ ?_
  · exact ⟨rfl, rfl, m1, m2, m3, m4, m5⟩
  · rintro j S2 m2 ⟨rfl, _⟩; exact hd
  · rintro j S2 m2 Uj hUj hj ⟨rfl, hok, n1, n2, n3, n4, n5⟩
    have hj' : j < Kp.length := by simpa using hj
    obtain ⟨e, he⟩ : ∃ e, Kp[j]? = some e := ⟨_, List.getElem?_eq_getElem hj'⟩
    have hem := List.mem_of_getElem? he
    have hek : (kDict Kp)[j] = (e.1, .ref e.2.1) := getElem_of (by rw [kDict, List.getElem?_map, he]; rfl)
    rw [hek]
    obtain ⟨x, hx, hxe⟩ := hin e hem
    have hva : valueAt (vDict K) e.1 = some (.ref x.2.1) := by rw [valueAt_vDict, ← hxe, find_of_mem hP.ks hx]; rfl
    have hgv : getV (kV K) e.1 = some x.2.2 := by rw [getV_kV, ← hxe, find_of_mem hP.ks hx]; rfl
    have hvi := hP.vis x hx
    have hvp : valueAt (kDict Kp) e.1 = some (.ref e.2.1) := by rw [valueAt_kDict, find_pl P.ks hem]; rfl
    obtain ⟨qs, hq1, hq2⟩ := P.lists e hem
    have hqlen := hlen e hem
    have hkp : (kP Kp)[j]? = some (e.1, e.2.2) := by rw [kP, List.getElem?_map, he]; rfl
    repeat tb_start
    refine Sub_dict hdi hva ?_ (by intro _; with_unfolding_all rfl)
    repeat tb_start
    cases hk : x.2.2.kind == Str.ofString "perm"
    · repeat tb_start
      refine hUj _ _ ⟨rfl, ?_, by tb_rel, by tb_rel, by tb_rel, by tb_rel, by tb_rel⟩
      rw [take_all_succ hkp, hok]
      simp [liveOk1, hgv, bne, hk]
    · repeat tb_start
      refine Sub_dict hd hvp ?_ (by intro _; with_unfolding_all rfl)
      refine forK_list (fun t S3 m3 => S3 = S2 ∧ m3 (Str.ofString "places") = some (.ref d) ∧ m3 (Str.ofString "plan") = some (.ref pl) ∧ m3 (Str.ofString "at") = some (.int (i : Int) 0) ∧ m3 (Str.ofString "goals") = some (.ref lg) ∧ m3 (Str.ofString "inner_call") = some (.bool b) ∧
        m3 (Str.ofString "info") = some (.ref x.2.1) ∧ m3 (Str.ofString "used_later") = some (.bool ((e.2.2.take t).any fun p => decide ((i : Int) < p.1)))) hq1 ?_ ?_ ?_ ?_
      · exact ⟨rfl, by tb_rel, by tb_rel, by tb_rel, by tb_rel, by tb_rel, by tb_rel, Loc.set_same _ _ _⟩
      · rintro t S3 m3 ⟨rfl, _⟩; exact hq1
      · rintro t S3 m3 Uk hUk ht ⟨rfl, k1, k2, k3, k4, k5, k6, k7⟩
        obtain ⟨p, hp⟩ : ∃ p, e.2.2[t]? = some p := ⟨_, List.getElem?_eq_getElem (by rw [List.length_map, hq2.length] at ht; exact ht)⟩
        obtain ⟨q, hq, hqt⟩ := hq2.get hp
        rw [getElem_of (show (qs.map Value.ref)[t]? = some (.ref q) by rw [List.getElem?_map, hq]; rfl)]
        rw [take_any_succ hp] at hUk
        repeat tb_start
        cases hd2 : decide ((i : Int) < p.1)
        · repeat tb_start
          exact hUk _ _ ⟨rfl, by tb_rel, by tb_rel, by tb_rel, by tb_rel, by tb_rel, by tb_rel, by rw [hd2, Bool.or_false]; tb_rel⟩
        · repeat tb_start
          exact hUk _ _ ⟨rfl, by tb_rel, by tb_rel, by tb_rel, by tb_rel, by tb_rel, by tb_rel, by rw [hd2, Bool.or_true]; tb_rel⟩
      · rintro S3 m3 ⟨rfl, k1, k2, k3, k4, k5, k6, k7⟩
        rw [List.length_map, hq2.length, List.take_of_length_le (Nat.le_refl _)] at k7
        repeat tb_start
        refine Sub_list_nat hll (by (first | lia | omega)) (v := .int lv 0) (by rw [iL, List.getElem?_map, hlv]; rfl) ?_ (by intro _; with_unfolding_all rfl)
        repeat tb_start
        have hl1 : liveOk1 (kV K) i lv (e.1, e.2.2) = ((e.2.2.any fun p => decide ((i : Int) < p.1)) == decide (x.2.2.slot ≤ lv)) := by simp [liveOk1, hgv, bne, hk]
        cases hb : (e.2.2.any fun p => decide ((i : Int) < p.1)) != decide (x.2.2.slot ≤ lv)
        · repeat tb_start
          refine hUj _ _ ⟨rfl, ?_, by tb_rel, by tb_rel, by tb_rel, by tb_rel, by tb_rel⟩
          rw [take_all_succ hkp, hok, hl1]; rw [bne] at hb; simpa using hb
        · repeat tb_start
          refine hRm _ (hbad ?_)
          rw [List.all_eq_false]
          exact ⟨(e.1, e.2.2), List.mem_of_getElem? hkp, by rw [hl1]; rw [bne] at hb; simpa using hb⟩
  · rintro S2 m2 ⟨rfl, hok, n1, n2, n3, n4, n5⟩
    rw [List.take_of_length_le (by simp [kP])] at hok
    exact hgo hok m2 n1 n2 n3 n4 n5
end
section
variable {D : Wd} {n : Nat} {S : PH}
set_option maxHeartbeats 1000000

theorem callsBefore_succ {gs : List Gl} {i : Nat} {g : Gl} (h : gs[i]? = some g) : callsBefore gs (i + 1) = if g.isCall then callsBefore gs i + 1 else callsBefore gs i := by
  unfold callsBefore
  rw [take_succ_get h, List.filter_append]
  cases hc : g.isCall <;> simp [List.filter_cons, hc]

theorem check_goals_spec {N : Addr → Prop} {kr d pl di lc ll : Addr} {as : List Tm} {gs : List Gl} {Kp : KPl} {K : KVi} {ch live : List Int} {needs : Bool} {ev : Int} (hk : KerAt S kr as gs) (hg4 : gs.length ≤ 4) (P : PlOk N S d Kp)
    (hP : PlanAt S pl di lc ll K ch live needs ev) (hin : ∀ e ∈ Kp, ∃ x ∈ K, x.1 = e.1) (hlen : ∀ e ∈ Kp, e.2.2.length ≤ 1000) (hc1 : ch.length ≤ 1000) (hl1 : live.length ≤ 1000) :
    CallC D (n + 1) (.ref 94) [.ref kr, .ref pl, .ref d] S fun u S' => u = .bool (chkGoals (kP Kp) (kV K) gs ch live needs ev) ∧ S' = S := by
  obtain ⟨pa, lg, rs, hkr, hpa, hlg, hrs⟩ := hk
  have hll : (rs.map Value.ref).length = gs.length := by rw [List.length_map, hrs.length]
  have hpl := hP.obj
  have hch := hP.chunks
  have hlv := hP.live
  refine CallC_fn (fn_check_goals _) loc_check_goals rfl fun L env fe T hT => ?_
  change EX _ _ _ (execs [_, _, _, _, _] _) _ _ _
  simp only [locs]
  have fin : ∀ b : Bool, b = chkGoals (kP Kp) (kV K) gs ch live needs ev → T (.bool b) S := fun b e => hT _ _ ⟨by rw [e], rfl⟩
  have hz1 : (iL ch).length < 2 ^ 60 := by simp; (first | lia | omega)
  have hz2 : (iL live).length < 2 ^ 60 := by simp; (first | lia | omega)
  have hz3 : (rs.map Value.ref).length < 2 ^ 60 := by (first | lia | omega)
  repeat tb_start
  rw [hll, iL_length]
  cases h1 : ((ch.length : Int) != (gs.length : Int))
  case true =>
    repeat tb_start
    have : (ch.length == gs.length) = false := by have : ¬ (ch.length : Int) = gs.length := by simpa using h1
                                                  simp; (first | lia | omega)
    exact fin _ (by simp [chkGoals, this])
  have g1 : ch.length = gs.length := by have : (ch.length : Int) = gs.length := by simpa using h1
                                        (first | lia | omega)
  repeat tb_start
  rw [hll, iL_length]
  cases h2 : ((live.length : Int) != (gs.length : Int))
  case true =>
    repeat tb_start
    have : (live.length == gs.length) = false := by have : ¬ (live.length : Int) = gs.length := by simpa using h2
                                                    simp; (first | lia | omega)
    exact fin _ (by simp [chkGoals, this])
  have g2 : live.length = gs.length := by have : (live.length : Int) = gs.length := by simpa using h2
                                          (first | lia | omega)
  repeat tb_start
  have bad : ∀ i, i < gs.length → goalOk (kP Kp) (kV K) gs ch live ev i = false → chkGoals (kP Kp) (kV K) gs ch live needs ev = false := by
    intro i hi h
    have : (List.range gs.length).all (goalOk (kP Kp) (kV K) gs ch live ev) = false := by rw [List.all_eq_false]; exact ⟨i, List.mem_range.mpr hi, by simp [h]⟩
    simp [chkGoals, this]
  refine forK_range gs.length (fun i S' m' => S' = S ∧ (List.range i).all (goalOk (kP Kp) (kV K) gs ch live ev) = true ∧ m' (Str.ofString "places") = some (.ref d) ∧ m' (Str.ofString "plan") = some (.ref pl) ∧ m' (Str.ofString "goals") = some (.ref lg) ∧
    m' (Str.ofString "inner_call") = some (.bool ((List.range i).any (innerAt gs)))) (by rw [hll]) (by (first | lia | omega)) ?_ ?_ ?_
  · exact ⟨rfl, rfl, by tb_rel, by tb_rel, by tb_rel, Loc.set_same _ _ _⟩
  · rintro i S' m' Ui hUi hi ⟨rfl, hok, n1, n2, n3, n4⟩
    obtain ⟨c, hc⟩ : ∃ c, ch[i]? = some c := ⟨_, List.getElem?_eq_getElem (by (first | lia | omega))⟩
    obtain ⟨lv, hlvi⟩ : ∃ c, live[i]? = some c := ⟨_, List.getElem?_eq_getElem (by (first | lia | omega))⟩
    obtain ⟨g, hg⟩ : ∃ c, gs[i]? = some c := ⟨_, List.getElem?_eq_getElem (by (first | lia | omega))⟩
    obtain ⟨r, hr, hga⟩ := hrs.get hg
    repeat tb_start
    refine forK_range i (fun j S2 m2 => S2 = S' ∧ m2 (Str.ofString "places") = some (.ref d) ∧ m2 (Str.ofString "plan") = some (.ref pl) ∧ m2 (Str.ofString "goals") = some (.ref lg) ∧ m2 (Str.ofString "at") = some (.int (i : Int) 0) ∧
      m2 (Str.ofString "inner_call") = some (.bool ((List.range i).any (innerAt gs))) ∧ m2 (Str.ofString "calls") = some (.int (callsBefore gs j) 0)) rfl (by (first | lia | omega)) ?_ ?_ ?_
    · exact ⟨rfl, by tb_rel, by tb_rel, by tb_rel, by tb_rel, by tb_rel, Loc.set_same _ _ _⟩
    · rintro j S2 m2 Uj hUj hj ⟨rfl, k1, k2, k3, k4, k5, k6⟩
      obtain ⟨g', hg'⟩ : ∃ c, gs[j]? = some c := ⟨_, List.getElem?_eq_getElem (by (first | lia | omega))⟩
      obtain ⟨r', hr', hga'⟩ := hrs.get hg'
      rw [callsBefore_succ hg'] at hUj
      repeat tb_start
      refine Sub_list_nat hlg (by (first | lia | omega)) (by rw [List.getElem?_map, hr']; rfl) ?_ (by intro _; with_unfolding_all rfl)
      refine EV_int ?_
      refine gl_head hga' (fun w hw => ?_) (by intro _; with_unfolding_all rfl)
      repeat tb_start
      rw [hw]
      cases hcc : g'.isCall
      · repeat tb_start
        exact hUj _ _ ⟨rfl, by tb_rel, by tb_rel, by tb_rel, by tb_rel, by tb_rel, by rw [hcc, if_neg (by decide)]; tb_rel⟩
      · repeat tb_start
        exact hUj _ _ ⟨rfl, by tb_rel, by tb_rel, by tb_rel, by tb_rel, by tb_rel, by rw [hcc, if_pos rfl]; tb_rel⟩
    · rintro S2 m2 ⟨rfl, k1, k2, k3, k4, k5, k6⟩
      have hgo : ∀ b1 b2 b3 b4, (c == callsBefore gs i) = b1 → (kP Kp).all (liveOk1 (kV K) i lv) = b2 → decide (lv < 0) = b3 → decide (ev < lv) = b4 → goalOk (kP Kp) (kV K) gs ch live ev i = (b1 && b2 && !b3 && !b4) := by
        intro b1 b2 b3 b4 e1 e2 e3 e4
        unfold goalOk; rw [hc, hlvi]; simp only [e1, e2, e3, e4]
      repeat tb_start
      refine Sub_list_nat hch (by (first | lia | omega)) (v := .int c 0) (by rw [iL, List.getElem?_map, hc]; rfl) ?_ (by intro _; with_unfolding_all rfl)
      repeat tb_start
      cases h3 : (c != callsBefore gs i)
      case true =>
        repeat tb_start
        refine fin _ (bad i hi ?_).symm
        have g3 : (c == callsBefore gs i) = false := by rw [bne] at h3; simpa using h3
        rw [hgo false _ _ _ g3 rfl rfl rfl]; rfl
      have g3 : (c == callsBefore gs i) = true := by rw [bne] at h3; simpa using h3
      repeat tb_start
      refine Sub_list_nat hlg (by (first | lia | omega)) (by rw [List.getElem?_map, hr]; rfl) ?_ (by intro _; with_unfolding_all rfl)
      refine EV_int ?_
      refine gl_head hga (fun w hw => ?_) (by intro _; with_unfolding_all rfl)
      repeat tb_start
      rw [hw]
      refine at_and1 (innerAt gs i) ?_ ?_ ?_
      · intro hcc
        repeat tb_start
        exact ⟨by simp [innerAt, hg, hcc, hrs.length], rfl, rfl⟩
      · intro hcc; simp [innerAt, hg, hcc]
      refine join_if (fun S3 m3 => S3 = S2 ∧ m3 (Str.ofString "places") = some (.ref d) ∧ m3 (Str.ofString "plan") = some (.ref pl) ∧ m3 (Str.ofString "goals") = some (.ref lg) ∧ m3 (Str.ofString "at") = some (.int (i : Int) 0) ∧
        m3 (Str.ofString "inner_call") = some (.bool ((List.range (i + 1)).any (innerAt gs)))) ?_ ?_ ?_
      · intro V hV hcc
        repeat tb_start
        exact hV _ _ ⟨rfl, by tb_rel, by tb_rel, by tb_rel, by tb_rel, by rw [range_any_succ, hcc, Bool.or_true]; tb_rel⟩
      · intro V hV hcc
        repeat tb_start
        exact hV _ _ ⟨rfl, by tb_rel, by tb_rel, by tb_rel, by tb_rel, by rw [range_any_succ, hcc, Bool.or_false]; tb_rel⟩
      rintro S3 m3 ⟨rfl, q1, q2, q3, q4, q5⟩
      repeat tb_start
      refine cg_loop rfl fe P hP hin hlvi (by (first | lia | omega)) hlen q1 q2 q4 q3 _ q5 ?_ ?_ ?_
      · intro h4
        refine Turn_ret (fin _ (bad i hi ?_).symm)
        rw [hgo _ false _ _ rfl h4 rfl rfl]; simp
      · intro m4 h; exact h
      intro h4 m4 r1 r2 r3 r4 r5
      repeat tb_start
      refine Sub_list_nat hlv (by (first | lia | omega)) (v := .int lv 0) (by rw [iL, List.getElem?_map, hlvi]; rfl) ?_ (by intro _; with_unfolding_all rfl)
      repeat tb_start
      cases h5 : decide (lv < 0)
      case true =>
        repeat tb_start
        refine fin _ (bad i hi ?_).symm
        rw [hgo _ _ true _ rfl rfl h5 rfl]; simp
      repeat tb_start
      refine Sub_list_nat hlv (by (first | lia | omega)) (v := .int lv 0) (by rw [iL, List.getElem?_map, hlvi]; rfl) ?_ (by intro _; with_unfolding_all rfl)
      repeat tb_start
      cases h6 : decide (ev < lv)
      case true =>
        repeat tb_start
        refine fin _ (bad i hi ?_).symm
        rw [hgo _ _ _ true rfl rfl rfl h6]; simp
      repeat tb_start
      refine hUi _ _ ⟨rfl, ?_, r1, r2, r4, r5⟩
      rw [range_all_succ, hok, hgo _ _ _ _ g3 h4 h5 h6]; rfl
  · rintro S' m' ⟨rfl, hok, n1, n2, n3, n4⟩
    repeat tb_start
    refine fin _ ?_
    simp [chkGoals, g1, g2, hok, inner]
end
section
variable {D : Wd} {n : Nat} {S : PH}
set_option maxHeartbeats 1000000

theorem allEvs_len {as : List Tm} {gs : List Gl} (wf : WfK as gs) : (allEvs as gs).length ≤ 40 := by
  have h1 := specs_length gs 0
  have h2 := rows_len (rowsOf as gs) (fun e he => by
    rcases List.mem_cons.mp he with h | h
    · cases h; exact wf.as3
    · exact goalRows_ok gs 0 wf.gok _ h)
  have h3 : (rowsOf as gs).length = gs.length + 1 := by simp [rowsOf, goalRows_length]
  have := wf.gs4
  unfold allEvs
  rw [List.length_append]; (first | lia | omega)
theorem addP_ne {P : Pls} {k : Int} {p : Pt} (h : ∀ e ∈ P, e.2 ≠ []) : ∀ e ∈ addP P k p, e.2 ≠ [] := by
  intro e he
  unfold addP at he
  split at he
  · obtain ⟨x, hx, rfl⟩ := List.mem_map.mp he
    have := h x hx
    split <;> simp [this]
  · rcases List.mem_append.mp he with he | he
    · exact h e he
    · have : e = (k, [p]) := by simpa using he
      subst this; simp
theorem addAll_ne : ∀ (es : List (Int × Pt)) {P : Pls}, (∀ e ∈ P, e.2 ≠ []) → ∀ e ∈ addAll P es, e.2 ≠ []
  | [], P, h => h
  | x :: es, P, h => addAll_ne es (P := addP P x.1 x.2) (addP_ne h)

noncomputable def permsOf (P : Pls) (I : Infos) : List Vi := P.filterMap fun e => (getV I e.1).bind fun v => if v.kind == Str.ofString "perm" then some v else none
noncomputable def pairBad (a b : Vi) : Bool := (decide (b.last < a.last) && decide (b.slot < a.slot)) || (a.last == b.last && decide (a.var < b.var) && decide (b.slot < a.slot))
noncomputable def varOk (I : Infos) (gs : List Gl) (e : Int × List Pt) : Bool := match getV I e.1 with
  | some v => chkVar gs e.1 e.2 v
  | none => false
noncomputable def chk (as : List Tm) (gs : List Gl) (I : Infos) (ch live : List Int) (needs : Bool) (ev : Int) : Bool :=
  decide (isort ((placesOf as gs).map (·.1)) = isort (I.map (·.1))) && (placesOf as gs).all (varOk I gs) && ev == ((permsOf (placesOf as gs) I).length : Int) &&
  decide (isort ((permsOf (placesOf as gs) I).map (·.slot)) = (List.range (permsOf (placesOf as gs) I).length).map fun (i : Nat) => (1 : Int) + (i : Int)) &&
  (permsOf (placesOf as gs) I).all (fun a => (permsOf (placesOf as gs) I).all fun b => !pairBad a b) && chkGoals (placesOf as gs) I gs ch live needs ev

theorem check_plan_spec {kr pl di lc ll : Addr} {as : List Tm} {gs : List Gl} {K : KVi} {ch live : List Int} {needs : Bool} {ev : Int} (hk : KerAt S kr as gs) (wf : WfK as gs)
    (hP : PlanAt S pl di lc ll K ch live needs ev) (hKl : K.length < 64) (hc1 : ch.length ≤ 1000) (hl1 : live.length ≤ 1000) :
    CallC D (n + 3) (.ref 75) [.ref kr, .ref pl] S fun u S' => u = .bool (chk as gs (kV K) ch live needs ev) ∧ S' = S := by
  refine CallC_shrink (CallC_fn (fn_check_plan _) loc_check_plan rfl fun L env fe T hT => ?_)
  change EX _ _ _ (execs [_, _, _, _, _, _, _, _] _) _ _ _
  simp only [locs]
  repeat tb_start
  refine CallW_do (places_of_spec hk wf) fun u S1 z => ?_
  obtain ⟨d, Kp, e1, hle1, hPl, hKp⟩ := z
  subst e1
  have hevl := allEvs_len wf
  have hlens := kP_len hKp
  have hne : ∀ e ∈ Kp, e.2.2 ≠ [] := fun e he => addAll_ne (allEvs as gs) (P := []) (by simp) (e.1, e.2.2) (by show _ ∈ placesOf as gs; rw [← hKp]; exact List.mem_map.mpr ⟨e, he, rfl⟩)
  have hP1 := hP.mono hle1
  obtain ⟨ep1, hd1⟩ := hPl.dict
  obtain ⟨ep2, hdi1⟩ := hP1.infos
  have hpl1 := hP1.obj
  repeat tb_start
  refine CallW_sorted_dict hd1 (by have := hPl.small; simp; (first | lia | omega)) fun a1 ha1 => ?_
  repeat tb_start
  refine CallW_sorted_dict (PH.keep_new ha1 hdi1) (by simp [vDict]; (first | lia | omega)) fun a2 ha2 => ?_
  repeat tb_start
  refine Cmp_ne_ints (PH.keep_new ha2 (PH.set_same ..)) (PH.set_same ..) ?_
  refine Tru_bool ?_
  have ek1 : (kDict Kp).map (·.1) = (placesOf as gs).map (·.1) := by rw [keys_kDict, ← hKp]; simp [kP]
  have ek2 : (vDict K).map (·.1) = (kV K).map (·.1) := by simp [vDict, kV]
  rw [ek1, ek2]
  have hle2 : Le S1 ((S1.set a1 (.list (iL (isort ((placesOf as gs).map (·.1)))))).set a2 (.list (iL (isort ((kV K).map (·.1)))))) := by rw [← ek1, ← ek2]; exact (Le.new ha1).trans (Le.new ha2)
  generalize (S1.set a1 (.list (iL (isort ((placesOf as gs).map (·.1)))))).set a2 (.list (iL (isort ((kV K).map (·.1))))) = S2 at *
  have hle := hle1.trans hle2
  cases h1 : decide (isort ((placesOf as gs).map (·.1)) = isort ((kV K).map (·.1)))
  case false =>
    repeat tb_start
    exact hT _ _ ⟨S, hle, by simp only [chk, h1]; simp, rfl⟩
  have g1 := of_decide_eq_true h1
  have hin : ∀ e ∈ Kp, ∃ x ∈ K, x.1 = e.1 := by
    intro e he
    have m1 : e.1 ∈ (placesOf as gs).map (·.1) := by rw [← ek1, keys_kDict]; exact List.mem_map.mpr ⟨e, he, rfl⟩
    have m2 := (isort_perm _).mem_iff.mpr m1
    rw [g1] at m2
    have m3 := (isort_perm _).mem_iff.mp m2
    rw [← ek2] at m3
    obtain ⟨y, hy, e2⟩ := List.mem_map.mp m3
    obtain ⟨x, hx, rfl⟩ := List.mem_map.mp hy
    exact ⟨x, hx, e2⟩
  repeat tb_start
  refine ⟨by simp, fun pm hpm => ?_⟩
  have hPl2 := hPl.mono hle2
  have hP2 := hP.mono hle
  obtain ⟨ep3, hd2⟩ := hPl2.dict
  obtain ⟨ep4, hdi2⟩ := hP2.infos
  have hpl2 := hP2.obj
  have key : ∀ x, Le S2 (S2.set pm x) := fun x => Le.new hpm
  repeat tb_start
  refine forK_dict (fun j S' m' => ∃ aj : List (Addr × Vi), S' = S2.set pm (.list (aj.map fun x => .ref x.1)) ∧ aj.map (·.2) = permsOf ((placesOf as gs).take j) (kV K) ∧ (∀ x ∈ aj, S2 x.1 = some (.inst 132 x.2.fs)) ∧ aj.length ≤ j ∧ ((placesOf as gs).take j).all (varOk (kV K) gs) = true ∧
    m' (Str.ofString "kernel") = some (.ref kr) ∧ m' (Str.ofString "plan") = some (.ref pl) ∧ m' (Str.ofString "places") = some (.ref d) ∧ m' (Str.ofString "perms") = some (.ref pm)) (PH.keep_new hpm hd2) ?_ ?_ ?_ ?_
  · exact ⟨[], rfl, rfl, by simp, by simp, rfl, by tb_rel, by tb_rel, by tb_rel, by tb_rel⟩
  · rintro j S' m' ⟨aj, rfl, _⟩; exact PH.keep_new hpm hd2
  · rintro j S' m' Uj hUj hj ⟨aj, rfl, haj, hav, hajl, hok, n1, n2, n3, n4⟩
    have hj' : j < Kp.length := by simpa using hj
    have hks : Kp.length ≤ 7 := hPl.small
    obtain ⟨e, he⟩ : ∃ e, Kp[j]? = some e := ⟨_, List.getElem?_eq_getElem hj'⟩
    have hem := List.mem_of_getElem? he
    have hek : (kDict Kp)[j] = (e.1, .ref e.2.1) := getElem_of (by rw [kDict, List.getElem?_map, he]; rfl)
    rw [hek]
    obtain ⟨x, hx, hxe⟩ := hin e hem
    have hva : valueAt (vDict K) e.1 = some (.ref x.2.1) := by rw [valueAt_vDict, ← hxe, find_of_mem hP.ks hx]; rfl
    have hgv : getV (kV K) e.1 = some x.2.2 := by rw [getV_kV, ← hxe, find_of_mem hP.ks hx]; rfl
    have hvi2 := hP2.vis x hx
    have hvp : valueAt (kDict Kp) e.1 = some (.ref e.2.1) := by rw [valueAt_kDict, find_pl hPl.ks hem]; rfl
    have hpla := hPl2.lists e hem
    have hkp : (placesOf as gs)[j]? = some (e.1, e.2.2) := by rw [← hKp, kP, List.getElem?_map, he]; rfl
    have hpd : pm ≠ d := by rintro rfl; rw [hd2] at hpm; cases hpm
    have hle3 := key (.list (aj.map fun x => .ref x.1))
    have hd3 := hle3 _ _ hd2
    have hdi3 := hle3 _ _ hdi2
    have hpl3 := hle3 _ _ hpl2
    have hvi3 := hle3 _ _ hvi2
    have hpm3 : (S2.set pm (.list (aj.map fun x => .ref x.1))) pm = some (.list (aj.map fun x => .ref x.1)) := PH.set_same ..
    have hk3 : KerAt (S2.set pm (.list (aj.map fun x => .ref x.1))) kr as gs := by
      obtain ⟨pa, lg, rs, b1, b2, b3, b4⟩ := hk
      have hle4 := hle.trans hle3
      exact ⟨pa, lg, rs, hle4 _ _ b1, b2.mono hle4.tups, hle4 _ _ b3, b4.mono fun _ _ z => z.mono hle4.tups⟩
    have hpla3 := hpla.mono hle3
    have hvo : varOk (kV K) gs (e.1, e.2.2) = chkVar gs e.1 e.2.2 x.2.2 := by simp [varOk, hgv]
    have hperm : permsOf [(e.1, e.2.2)] (kV K) = if x.2.2.kind == Str.ofString "perm" then [x.2.2] else [] := by
      unfold permsOf; rw [List.filterMap_cons]; simp only [hgv, Option.bind_some]
      cases x.2.2.kind == Str.ofString "perm" <;> simp
    have hpsucc : permsOf ((placesOf as gs).take (j + 1)) (kV K) = permsOf ((placesOf as gs).take j) (kV K) ++ if x.2.2.kind == Str.ofString "perm" then [x.2.2] else [] := by
      rw [take_succ_get hkp, ← hperm]; unfold permsOf; rw [List.filterMap_append]
    have hajl2 : (aj.map fun x => Value.ref x.1).length ≤ 100 := by simp; (first | lia | omega)
    repeat tb_start
    refine Sub_dict hd3 hvp ?_ (by intro _; with_unfolding_all rfl)
    repeat tb_start
    refine Sub_dict hdi3 hva ?_ (by intro _; with_unfolding_all rfl)
    repeat tb_start
    refine CallW_do (check_variable_spec hk3 hpla3 (hne e hem) hvi3 wf.gs4 (by have := hlens e hem; (first | lia | omega))) fun u S' z => ?_
    obtain ⟨e1, e2⟩ := z
    subst e1
    rw [e2]
    repeat tb_start
    cases hcv : chkVar gs e.1 e.2.2 x.2.2
    case false =>
      repeat tb_start
      refine hT _ _ ⟨S, hle.trans hle3, ?_, rfl⟩
      have : (placesOf as gs).all (varOk (kV K) gs) = false := by rw [List.all_eq_false]; exact ⟨_, List.mem_of_getElem? hkp, by rw [hvo, hcv]; decide⟩
      simp only [chk, this]; simp
    repeat tb_start
    refine Sub_dict hdi3 hva ?_ (by intro _; with_unfolding_all rfl)
    repeat tb_start
    cases hkd : x.2.2.kind == Str.ofString "perm"
    · repeat tb_start
      refine hUj _ _ ⟨aj, rfl, by rw [hpsucc, hkd, haj]; simp, hav, by (first | lia | omega), by rw [take_all_succ hkp, hok, hvo, hcv]; rfl, by tb_rel, by tb_rel, by tb_rel, by tb_rel⟩
    · repeat tb_start
      refine Sub_dict hdi3 hva ?_ (by intro _; with_unfolding_all rfl)
      repeat tb_start
      rw [set_set]
      refine hUj _ _ ⟨aj ++ [(x.2.1, x.2.2)], by simp, by rw [hpsucc, hkd, List.map_append, haj]; simp, ?_, by simp; (first | lia | omega), by rw [take_all_succ hkp, hok, hvo, hcv]; rfl, by tb_rel, by tb_rel, by tb_rel, by tb_rel⟩
      intro y hy
      rcases List.mem_append.mp hy with hy | hy
      · exact hav y hy
      · have : y = (x.2.1, x.2.2) := by simpa using hy
        subst this; exact hvi2
  · rintro S' m' ⟨aj, rfl, haj, hav, hajl, hok, n1, n2, n3, n4⟩
    have hPlen : (placesOf as gs).length = Kp.length := by rw [← hKp]; simp [kP]
    rw [List.take_of_length_le (by simp; (first | lia | omega))] at haj hok
    have hks : Kp.length ≤ 7 := hPl.small
    have hajl3 : aj.length ≤ 7 := by simp at hajl; (first | lia | omega)
    have hpn : (permsOf (placesOf as gs) (kV K)).length = aj.length := by rw [← haj]; simp
    have hle3 := key (.list (aj.map fun x => .ref x.1))
    have hpl3 := hle3 _ _ hpl2
    have hpm3 : (S2.set pm (.list (aj.map fun x => .ref x.1))) pm = some (.list (aj.map fun x => .ref x.1)) := PH.set_same ..
    have hav3 : ∀ x ∈ aj, (S2.set pm (.list (aj.map fun x => .ref x.1))) x.1 = some (.inst 132 x.2.fs) := fun x hx => hle3 _ _ (hav x hx)
    have hle4 := hle.trans hle3
    have hle5 := hle2.trans hle3
    clear hle3
    generalize S2.set pm (.list (aj.map fun x => .ref x.1)) = S3 at *
    have hz : (aj.map fun x => Value.ref x.1).length < 2 ^ 60 := by simp; (first | lia | omega)
    repeat tb_start
    rw [List.length_map]
    have gen : ∀ (b1 b2 b3 b4 : Bool), (ev == ((permsOf (placesOf as gs) (kV K)).length : Int)) = b1 → decide (isort ((permsOf (placesOf as gs) (kV K)).map (·.slot)) = (List.range (permsOf (placesOf as gs) (kV K)).length).map fun (i : Nat) => (1 : Int) + (i : Int)) = b2 →
        (permsOf (placesOf as gs) (kV K)).all (fun a => (permsOf (placesOf as gs) (kV K)).all fun b => !pairBad a b) = b3 → chkGoals (placesOf as gs) (kV K) gs ch live needs ev = b4 → chk as gs (kV K) ch live needs ev = (b1 && b2 && b3 && b4) := by
      intro b1 b2 b3 b4 e1 e2 e3 e4
      unfold chk; rw [h1, hok, e1, e2, e3, e4]; simp
    cases h2 : (ev != (aj.length : Int))
    case true =>
      repeat tb_start
      have : (ev == ((permsOf (placesOf as gs) (kV K)).length : Int)) = false := by rw [hpn]; rw [bne] at h2; simpa using h2
      exact hT _ _ ⟨S, hle4, by rw [gen false _ _ _ this rfl rfl rfl]; simp, rfl⟩
    have g2 : (ev == ((permsOf (placesOf as gs) (kV K)).length : Int)) = true := by rw [hpn]; rw [bne] at h2; simpa using h2
    repeat tb_start
    refine EV_comp fe (clos_none (by decide)) (by decide) rfl (by decide) (by decide) (by rfl) (fun _ => rfl) ?_
    repeat tb_start
    refine PyI_list hpm3 fun I oI hI hst => ?_
    refine ⟨_, _, _, _, oI, iterList pm (aj.map fun x => .ref x.1), PH.set_same .., hst, by rw [List.length_map]; (first | lia | omega), selfs_list pm, fun i vs S2 => S2 = S3 ∧ vs = iL ((aj.take i).map (·.2.slot)), ⟨erase_set hI, rfl⟩, fun i vs S2 h => by rw [h.1]; exact hpm3, ?_, ?_⟩
    · rintro i vs S2 C cenv mC fe' hcl hi ⟨rfl, rfl⟩ hx
      obtain ⟨y, hy⟩ : ∃ y, aj[i]? = some y := ⟨_, List.getElem?_eq_getElem (by simpa using hi)⟩
      have hyi := hav3 y (List.mem_of_getElem? hy)
      have hx : mC (Str.ofString "info") = some (.ref y.1) := by rw [hx, List.getElem?_map, hy]; rfl
      have fe2 : FE C [(Str.ofString ".0", NameKind.local), (Str.ofString "info", NameKind.local)] cenv := fe'
      refine EV_attr ?_ (by with_unfolding_all rfl)
      refine EV_local fe2 (by decide) hx ?_
      repeat tb_start
      exact ⟨rfl, by rw [take_succ_get hy]; simp [iL]⟩
    rintro vs S4 c hc ⟨rfl, rfl⟩
    rw [List.take_of_length_le (by simp)]
    have esl : aj.map (·.2.slot) = (permsOf (placesOf as gs) (kV K)).map (·.slot) := by rw [← haj]; simp
    rw [esl]
    repeat tb_start
    refine CallW_sorted_list (PH.set_same ..) (by simp; (first | lia | omega)) fun c2 hc2 => ?_
    repeat tb_start
    rw [List.length_map]
    refine CallW_range2 fun rg o hrg ho => ?_
    repeat tb_start
    refine CallW_list_range (N := aj.length) (PH.set_same ..) ho (by (first | lia | omega)) (by (first | lia | omega)) (by (first | lia | omega)) (by (first | lia | omega)) (by (first | lia | omega)) fun c3 hc3 => ?_
    refine Cmp_ne_ints (PH.keep_new hc3 (PH.keep_new hrg (PH.set_same ..))) (PH.set_same ..) ?_
    refine Tru_bool ?_
    have hle6 : Le S4 ((((S4.set c (.list (iL ((permsOf (placesOf as gs) (kV K)).map (·.slot))))).set c2 (.list (iL (isort ((permsOf (placesOf as gs) (kV K)).map (·.slot)))))).set rg (.raw o)).set c3 (.list (iL ((List.range aj.length).map fun (i : Nat) => (1 : Int) + (i : Int))))) :=
      (((Le.new hc).trans (Le.new hc2)).trans (Le.new hrg)).trans (Le.new hc3)
    generalize (((S4.set c (.list (iL ((permsOf (placesOf as gs) (kV K)).map (·.slot))))).set c2 (.list (iL (isort ((permsOf (placesOf as gs) (kV K)).map (·.slot)))))).set rg (.raw o)).set c3 (.list (iL ((List.range aj.length).map fun (i : Nat) => (1 : Int) + (i : Int)))) = S5 at *
    have hle7 := hle4.trans hle6
    have hpm5 := hle6 _ _ hpm3
    have hav5 : ∀ x ∈ aj, S5 x.1 = some (.inst 132 x.2.fs) := fun x hx => hle6 _ _ (hav3 x hx)
    rw [← hpn]
    cases h3 : decide (isort ((permsOf (placesOf as gs) (kV K)).map (·.slot)) = (List.range (permsOf (placesOf as gs) (kV K)).length).map fun (i : Nat) => (1 : Int) + (i : Int))
    case false =>
      repeat tb_start
      exact hT _ _ ⟨S, hle7, by rw [gen _ false _ _ g2 h3 rfl rfl]; simp, rfl⟩
    have hall : ∀ (i j : Nat) (x y : Addr × Vi), aj[i]? = some x → aj[j]? = some y → pairBad x.2 y.2 = true → (permsOf (placesOf as gs) (kV K)).all (fun a => (permsOf (placesOf as gs) (kV K)).all fun b => !pairBad a b) = false := by
      intro i j x y hx hy hb
      rw [List.all_eq_false]
      refine ⟨x.2, by rw [← haj]; exact List.mem_map.mpr ⟨x, List.mem_of_getElem? hx, rfl⟩, ?_⟩
      rw [Bool.not_eq_true, List.all_eq_false]
      exact ⟨y.2, by rw [← haj]; exact List.mem_map.mpr ⟨y, List.mem_of_getElem? hy, rfl⟩, by simp [hb]⟩
    have fin : ∀ (i j : Nat) (x y : Addr × Vi), aj[i]? = some x → aj[j]? = some y → pairBad x.2 y.2 = true → T (.bool false) S5 := by
      intro i j x y hx hy hb
      exact hT _ _ ⟨S, hle7, by rw [gen _ _ false _ g2 h3 (hall i j x y hx hy hb) rfl]; simp, rfl⟩
    repeat tb_start
    refine forK_list (fun i S' m' => S' = S5 ∧ ((permsOf (placesOf as gs) (kV K)).take i).all (fun a => (permsOf (placesOf as gs) (kV K)).all fun b => !pairBad a b) = true ∧
      m' (Str.ofString "kernel") = some (.ref kr) ∧ m' (Str.ofString "plan") = some (.ref pl) ∧ m' (Str.ofString "places") = some (.ref d) ∧ m' (Str.ofString "perms") = some (.ref pm)) hpm5 ?_ ?_ ?_ ?_
    · exact ⟨rfl, rfl, by tb_rel, by tb_rel, by tb_rel, by tb_rel⟩
    · rintro i S' m' ⟨rfl, _⟩; exact hpm5
    · rintro i S' m' Ui hUi hi ⟨rfl, hok2, q1, q2, q3, q4⟩
      obtain ⟨y, hy⟩ : ∃ y, aj[i]? = some y := ⟨_, List.getElem?_eq_getElem (by simpa using hi)⟩
      have hyi := hav5 y (List.mem_of_getElem? hy)
      have hyp : (permsOf (placesOf as gs) (kV K))[i]? = some y.2 := by rw [← haj, List.getElem?_map, hy]; rfl
      rw [getElem_of (show (aj.map fun x => Value.ref x.1)[i]? = some (.ref y.1) by rw [List.getElem?_map, hy]; rfl)]
      rw [take_all_succ hyp, hok2] at hUi
      repeat tb_start
      refine forK_list (fun j S6 m6 => S6 = S' ∧ ((permsOf (placesOf as gs) (kV K)).take j).all (fun b => !pairBad y.2 b) = true ∧
        m6 (Str.ofString "kernel") = some (.ref kr) ∧ m6 (Str.ofString "plan") = some (.ref pl) ∧ m6 (Str.ofString "places") = some (.ref d) ∧ m6 (Str.ofString "perms") = some (.ref pm) ∧ m6 (Str.ofString "one") = some (.ref y.1)) hpm5 ?_ ?_ ?_ ?_
      · exact ⟨rfl, rfl, by tb_rel, by tb_rel, by tb_rel, by tb_rel, by tb_rel⟩
      · rintro j S' m' ⟨rfl, _⟩; exact hpm5
      · rintro j S' m' Uj hUj hj ⟨rfl, hok3, r1, r2, r3, r4, r5⟩
        obtain ⟨z, hz2⟩ : ∃ y, aj[j]? = some y := ⟨_, List.getElem?_eq_getElem (by simpa using hj)⟩
        have hzi := hav5 z (List.mem_of_getElem? hz2)
        have hzp : (permsOf (placesOf as gs) (kV K))[j]? = some z.2 := by rw [← haj, List.getElem?_map, hz2]; rfl
        rw [getElem_of (show (aj.map fun x => Value.ref x.1)[j]? = some (.ref z.1) by rw [List.getElem?_map, hz2]; rfl)]
        rw [take_all_succ hzp, hok3] at hUj
        have bad := fin i j y z hy hz2
        repeat tb_start
        refine at_and1 (decide (z.2.last < y.2.last) && decide (z.2.slot < y.2.slot)) ?_ ?_ ?_
        · intro hc
          repeat tb_start
          exact ⟨by rw [hc]; rfl, rfl, rfl⟩
        · intro hc; rw [hc]; rfl
        cases hA : decide (z.2.last < y.2.last) && decide (z.2.slot < y.2.slot)
        case true =>
          repeat tb_start
          exact bad (by unfold pairBad; rw [hA]; rfl)
        repeat tb_start
        refine at_and2 (decide (y.2.var < z.2.var)) ((y.2.last == z.2.last) && decide (y.2.var < z.2.var) && decide (z.2.slot < y.2.slot)) ?_ ?_ ?_ ?_
        · intro hc
          repeat tb_start
          exact ⟨rfl, rfl, rfl⟩
        · intro hc hw
          repeat tb_start
          exact ⟨by rw [hc, hw]; rfl, rfl, rfl⟩
        · rintro (hc | hc) <;> rw [hc] <;> simp
        cases hB : (y.2.last == z.2.last) && decide (y.2.var < z.2.var) && decide (z.2.slot < y.2.slot)
        case true =>
          repeat tb_start
          exact bad (by unfold pairBad; rw [hA, hB]; rfl)
        repeat tb_start
        exact hUj _ _ ⟨rfl, by unfold pairBad; rw [hA, hB]; rfl, by tb_rel, by tb_rel, by tb_rel, by tb_rel, by tb_rel⟩
      · rintro S' m' ⟨rfl, hok3, r1, r2, r3, r4, r5⟩
        rw [List.take_of_length_le (by simp; (first | lia | omega))] at hok3
        repeat tb_start
        exact hUi _ _ ⟨rfl, by rw [hok3]; rfl, r1, r2, r3, r4⟩
    · rintro S' m' ⟨rfl, hok2, q1, q2, q3, q4⟩
      rw [List.take_of_length_le (by simp; (first | lia | omega))] at hok2
      have hk5 : KerAt S' kr as gs := by
        obtain ⟨pa, lg, rs, b1, b2, b3, b4⟩ := hk
        exact ⟨pa, lg, rs, hle7 _ _ b1, b2.mono hle7.tups, hle7 _ _ b3, b4.mono fun _ _ z => z.mono hle7.tups⟩
      repeat tb_start
      refine CallW_do (CallC_le (check_goals_spec (n := n + 1) hk5 wf.gs4 (hPl.mono (hle5.trans hle6)) (hP.mono hle7) hin (fun e he => by have := hlens e he; (first | lia | omega)) hc1 hl1) (by (first | lia | omega))) fun u S'' z => ?_
      obtain ⟨e1, e2⟩ := z
      subst e1 e2
      repeat tb_start
      exact hT _ _ ⟨S, hle7, by rw [gen _ _ _ _ g2 h3 hok2 rfl, hKp]; simp, rfl⟩
end
section
variable {D : Wd} {n : Nat} {S : PH}
set_option maxHeartbeats 1000000

noncomputable def Lf.vars : Lf → List Int
  | .a => []
  | .v k => [k]
noncomputable def Tm.vars : Tm → List Int
  | .lf l => l.vars
  | .s x y => x.vars ++ y.vars
noncomputable def oneV (res : List Int) (k : Int) : List Int := if k ∈ res then res else res ++ [k]
noncomputable def dedupI (ks : List Int) : List Int := ks.foldl oneV []
noncomputable def oneC (kvs : List (Int × Value)) (k : Int) : List (Int × Value) := stored kvs k (.int ((match valueAt kvs k with | some (.int c _) => c | _ => 0) + 1) 0)
noncomputable def isC (kvs : List (Int × Value)) : Prop := ∀ e ∈ kvs, ∃ c, e.2 = .int c 0
noncomputable def occI (ks : List Int) : List (Int × Value) := ks.foldl oneC []
theorem isC_one {kvs : List (Int × Value)} {k : Int} (h : isC kvs) : isC (oneC kvs k) := by
  intro e he
  unfold oneC stored at he
  split at he
  · obtain ⟨x, hx, rfl⟩ := List.mem_map.mp he
    split
    · exact ⟨_, rfl⟩
    · exact h x hx
  · rcases List.mem_append.mp he with he | he
    · exact h e he
    · have := List.mem_singleton.mp he
      subst this; exact ⟨_, rfl⟩
theorem oneC_len (kvs : List (Int × Value)) (k : Int) : (oneC kvs k).length ≤ kvs.length + 1 := by
  unfold oneC stored; split <;> simp
theorem oneV_len (kvs : List Int) (k : Int) : (oneV kvs k).length ≤ kvs.length + 1 := by
  unfold oneV; split <;> simp
theorem valueAt_true {res : List Int} {k : Int} : (valueAt (res.map fun x => (x, Value.bool true)) k).isSome = decide (k ∈ res) := by
  unfold valueAt
  rw [Option.isSome_map]
  induction res with
  | nil => simp
  | cons x r ih =>
    rw [List.map_cons, List.find?_cons]
    by_cases h : x = k
    · simp [h]
    · have h2 : ¬ k = x := fun e => h e.symm
      simp only [h, decide_false]; rw [ih]; simp [h2]

/-- a stack of terms, its bottom first -/
noncomputable def TkAt (S : PH) (st : Addr) (q : List Tm) : Prop := ∃ rs : List Addr, S st = some (.list (rs.map .ref)) ∧ All2 (TmAt S) rs q
noncomputable def tvars (q : List Tm) : List Int := q.reverse.flatMap Tm.vars
noncomputable def twt (q : List Tm) : Nat := (q.map Tm.wt).sum
theorem tlen (q : List Tm) : q.length ≤ twt q := by
  induction q with
  | nil => simp [twt]
  | cons e r ih =>
    have : 1 ≤ e.wt := by cases e <;> simp [Tm.wt]
    simp only [twt, List.map_cons, List.sum_cons, List.length_cons] at ih ⊢; (first | lia | omega)
theorem twt_app (p q : List Tm) : twt (p ++ q) = twt p + twt q := by simp [twt]

theorem occurrences_spec {r : Addr} {t : Tm} (ht : TmAt S r t) : CallC D (n + 1) (.ref 115) [.ref r] S fun v S' => ∃ d ep, v = .ref d ∧ S d = none ∧ S' d = some (.dict (occI t.vars) ep) ∧ Le S S' := by
  refine CallC_fn (fn_occurrences _) loc_occurrences rfl fun L env fe T hT => ?_
  change EX _ _ _ (execs [_, _, _, _] _) _ _ _
  simp only [locs]
  repeat tb_start
  intro d hd
  repeat tb_start
  refine ⟨by simp, fun st hst => ?_⟩
  have hSst : S st = none := by
    cases q : S st with
    | none => rfl
    | some x => rw [PH.keep_new hd q] at hst; cases hst
  have hdst : d ≠ st := by rintro rfl; rw [PH.set_same] at hst; cases hst
  repeat tb_start
  refine EX_while' (fun k S' m' => ∃ q kvs ep, S' d = some (.dict kvs ep) ∧ TkAt S' st q ∧ (tvars q).foldl oneC kvs = occI t.vars ∧ twt q = k ∧ isC kvs ∧ kvs.length + k ≤ 10 ∧ Le S S' ∧
    m' (Str.ofString "counts") = some (.ref d) ∧ m' (Str.ofString "todo") = some (.ref st)) t.wt ?_ ?_
  · refine ⟨[t], [], 0, PH.keep_new hst (PH.set_same ..), ⟨[r], PH.set_same .., .cons (ht.mono ((Le.new hd).trans (Le.new hst)).tups) .nil⟩, ?_, by simp [twt], by simp [isC], ?_, (Le.new hd).trans (Le.new hst), by tb_rel, by tb_rel⟩
    · simp [tvars, occI]
    · cases t <;> simp [Tm.wt]
  · rintro k S' m' U hU ⟨q, kvs, ep, hd', ⟨rs, hq1, hq2⟩, hf, hwt, hC, hl, hle, n1, n2⟩
    have hql := tlen q
    have hrl : rs.length = q.length := hq2.length
    repeat tb_start
    refine Tru_list hq1 (by simp; (first | lia | omega)) ?_
    rcases snoc_cases q with rfl | ⟨q', e, rfl⟩
    · cases hq2
      refine ite_f rfl ?_
      repeat tb_start
      refine hT _ _ ⟨d, ep, rfl, hd, ?_, hle⟩
      have : kvs = occI t.vars := by simpa [tvars] using hf
      rw [← this]; exact hd'
    · obtain ⟨rs', ta, rfl, hq3, hta⟩ := hq2.snoc
      refine ite_t (by simp) ?_
      repeat tb_start
      refine CallW_pop (vs := rs'.map .ref) (v := .ref ta) (by simpa using hq1) (by simp at hrl hql ⊢; (first | lia | omega)) ?_
      have tt : Tups S' (S'.set st (.list (rs'.map .ref))) := fun a vs e => by rw [PH.set_ne (by rintro rfl; rw [hq1] at e; cases e)]; exact e
      have hta1 := hta.mono tt
      have hq4 : All2 (TmAt (S'.set st (.list (rs'.map .ref)))) rs' q' := hq3.mono fun _ _ x => x.mono tt
      have hle1 : Le S (S'.set st (.list (rs'.map .ref))) := hle.set hSst
      have hst1 : (S'.set st (.list (rs'.map .ref))) st = some (.list (rs'.map .ref)) := PH.set_same ..
      have hd1 : (S'.set st (.list (rs'.map .ref))) d = some (.dict kvs ep) := by rw [PH.set_ne hdst]; exact hd'
      clear hta hq3 hle tt
      generalize S'.set st (.list (rs'.map .ref)) = S1 at *
      have hwt' : k = twt q' + e.wt := by rw [← hwt, twt_app]; simp [twt]
      have hql' := tlen q'
      have hqe : tvars (q' ++ [e]) = e.vars ++ tvars q' := by simp [tvars]
      rw [hqe, List.foldl_append] at hf
      repeat tb_start
      rcases e with (_ | kk) | ⟨x, y⟩
      · have h1 : S1 ta = some _ := hta1
        repeat tb_start
        exact hU (twt q') _ _ (by simp [Tm.wt] at hwt'; (first | lia | omega)) ⟨q', kvs, ep, hd1, ⟨rs', hst1, hq4⟩, hf, rfl, hC, by simp [Tm.wt] at hwt'; (first | lia | omega), hle1, by tb_rel, by tb_rel⟩
      · have h1 : S1 ta = some _ := hta1
        repeat tb_start
        refine CallW_dget hd1 ?_
        obtain ⟨c, hc, hone⟩ : ∃ c : Int, (valueAt kvs kk).getD (.int 0 0) = .int c 0 ∧ oneC kvs kk = stored kvs kk (.int (c + 1) 0) := by
          cases hv : valueAt kvs kk with
          | none => exact ⟨0, rfl, by simp [oneC, hv]⟩
          | some v =>
            unfold valueAt at hv
            obtain ⟨p, hp, rfl⟩ := Option.map_eq_some_iff.mp hv
            obtain ⟨c, hc⟩ := hC p (List.mem_of_find?_eq_some hp)
            refine ⟨c, by simp [hc], ?_⟩
            unfold oneC valueAt; rw [hp]; simp [hc]
        rw [hc]
        repeat tb_start
        refine SetI_dict hd1 (by (first | lia | omega)) fun ep' => ?_
        repeat tb_start
        rw [← hone]
        have tt : Tups S1 (S1.set d (.dict (oneC kvs kk) ep')) := fun a vs e => by rw [PH.set_ne (by rintro rfl; rw [hd1] at e; cases e)]; exact e
        have := oneC_len kvs kk
        exact hU (twt q') _ _ (by simp [Tm.wt] at hwt'; (first | lia | omega)) ⟨q', oneC kvs kk, ep', PH.set_same .., ⟨rs', by rw [PH.set_ne hdst.symm]; exact hst1, hq4.mono fun _ _ x => x.mono tt⟩, by simpa [Tm.vars, Lf.vars] using hf, rfl, isC_one hC, by simp [Tm.wt] at hwt'; (first | lia | omega), hle1.set hd, by tb_rel, by tb_rel⟩
      · obtain ⟨p', xa, ya, h1, h2, h3, h4⟩ := hta1
        repeat tb_start
        refine CallW_reversed_tup h2 (by simp) fun rv o hrv ho => ?_
        repeat tb_start
        refine CallW_extend_rev hrv hst1 h2 ho (by simp) (by have := hq4.length; simp; (first | lia | omega)) ?_
        repeat tb_start
        have tt : Tups S1 (S1.set st (.list (rs'.map .ref ++ [Value.ref xa, Value.ref ya].reverse))) := fun a vs e => by rw [PH.set_ne (by rintro rfl; rw [hst1] at e; cases e)]; exact e
        refine hU (twt (q' ++ [.lf y, .lf x])) _ _ ?_ ⟨q' ++ [.lf y, .lf x], kvs, ep, by rw [PH.set_ne hdst]; exact hd1, ⟨rs' ++ [ya, xa], by rw [PH.set_same]; simp, (hq4.mono fun _ _ x => x.mono tt).append (.cons (show TmAt _ ya (.lf y) from h4.mono tt) (.cons (show TmAt _ xa (.lf x) from h3.mono tt) .nil))⟩, ?_, rfl, hC, ?_, hle1.set hSst, by tb_rel, by tb_rel⟩
        · rw [twt_app]; simp [twt, Tm.wt] at hwt' ⊢; (first | lia | omega)
        · rw [← hf]; simp [tvars, Tm.vars]
        · rw [twt_app]; simp [twt, Tm.wt] at hwt' ⊢; (first | lia | omega)
theorem variables_of_spec {l r : Addr} {t : Tm} (hl : S l = some (.list [.ref r])) (ht : TmAt S r t) : CallC D (n + 1) (.ref 108) [.ref l] S fun v S' => ∃ d, v = .ref d ∧ S d = none ∧ S' d = some (.list (iL (dedupI t.vars))) ∧ Le S S' := by
  refine CallC_fn (fn_variables_of _) loc_variables_of rfl fun L env fe T hT => ?_
  change EX _ _ _ (execs [_, _, _, _, _] _) _ _ _
  simp only [locs]
  repeat tb_start
  intro sn hsn
  repeat tb_start
  refine ⟨by simp, fun d hd => ?_⟩
  have hSd : S d = none := by
    cases q : S d with
    | none => rfl
    | some x => rw [PH.keep_new hsn q] at hd; cases hd
  have hsd : sn ≠ d := by rintro rfl; rw [PH.set_same] at hd; cases hd
  repeat tb_start
  refine CallW_reversed_list (PH.keep_new hd (PH.keep_new hsn hl)) fun rv o hrv ho => ?_
  repeat tb_start
  refine CallW_list_lrev hrv (PH.keep_new hd (PH.keep_new hsn hl)) ho (by simp) fun st hst => ?_
  have hle0 : Le S ((S.set sn (.dict [] 0)).set d (.list [])) := (Le.new hsn).trans (Le.new hd)
  have hSst : S st = none := hle0.none hst
  have hdst : d ≠ st := by rintro rfl; rw [PH.set_same] at hst; cases hst
  have hsst : sn ≠ st := by rintro rfl; rw [PH.set_ne hsd, PH.set_same] at hst; cases hst
  repeat tb_start
  refine EX_while' (fun k S' m' => ∃ q res ep, S' sn = some (.dict (res.map fun x => (x, .bool true)) ep) ∧ S' d = some (.list (iL res)) ∧ TkAt S' st q ∧ (tvars q).foldl oneV res = dedupI t.vars ∧ twt q = k ∧ res.length + k ≤ 10 ∧ Le S S' ∧
    m' (Str.ofString "seen") = some (.ref sn) ∧ m' (Str.ofString "result") = some (.ref d) ∧ m' (Str.ofString "todo") = some (.ref st)) t.wt ?_ ?_
  · refine ⟨[t], [], 0, PH.keep_new hst (by rw [PH.set_ne hsd]; exact PH.set_same ..), PH.keep_new hst (PH.set_same ..), ⟨[r], PH.set_same .., .cons (ht.mono (hle0.trans (Le.new hst)).tups) .nil⟩, ?_, by simp [twt], ?_, hle0.trans (Le.new hst), by tb_rel, by tb_rel, by tb_rel⟩
    · simp [tvars, dedupI]
    · cases t <;> simp [Tm.wt]
  · rintro k S' m' U hU ⟨q, res, ep, hs', hd', ⟨rs, hq1, hq2⟩, hf, hwt, hlr, hle, n1, n2, n3⟩
    have hql := tlen q
    have hrl : rs.length = q.length := hq2.length
    repeat tb_start
    refine Tru_list hq1 (by simp; (first | lia | omega)) ?_
    rcases snoc_cases q with rfl | ⟨q', e, rfl⟩
    · cases hq2
      refine ite_f rfl ?_
      repeat tb_start
      refine hT _ _ ⟨d, rfl, hSd, ?_, hle⟩
      have : res = dedupI t.vars := by simpa [tvars] using hf
      rw [← this]; exact hd'
    · obtain ⟨rs', ta, rfl, hq3, hta⟩ := hq2.snoc
      refine ite_t (by simp) ?_
      repeat tb_start
      refine CallW_pop (vs := rs'.map .ref) (v := .ref ta) (by simpa using hq1) (by simp at hrl hql ⊢; (first | lia | omega)) ?_
      have tt : Tups S' (S'.set st (.list (rs'.map .ref))) := fun a vs e => by rw [PH.set_ne (by rintro rfl; rw [hq1] at e; cases e)]; exact e
      have hta1 := hta.mono tt
      have hq4 : All2 (TmAt (S'.set st (.list (rs'.map .ref)))) rs' q' := hq3.mono fun _ _ x => x.mono tt
      have hle1 : Le S (S'.set st (.list (rs'.map .ref))) := hle.set hSst
      have hst1 : (S'.set st (.list (rs'.map .ref))) st = some (.list (rs'.map .ref)) := PH.set_same ..
      have hd1 : (S'.set st (.list (rs'.map .ref))) d = some (.list (iL res)) := by rw [PH.set_ne hdst]; exact hd'
      have hs1 : (S'.set st (.list (rs'.map .ref))) sn = some (.dict (res.map fun x => (x, .bool true)) ep) := by rw [PH.set_ne hsst]; exact hs'
      clear hta hq3 hle tt
      generalize S'.set st (.list (rs'.map .ref)) = S1 at *
      have hwt' : k = twt q' + e.wt := by rw [← hwt, twt_app]; simp [twt]
      have hql' := tlen q'
      have hqe : tvars (q' ++ [e]) = e.vars ++ tvars q' := by simp [tvars]
      rw [hqe, List.foldl_append] at hf
      have hresl : (iL res).length ≤ 100 := by simp; (first | lia | omega)
      have hSsn : S sn = none := hsn
      repeat tb_start
      rcases e with (_ | kk) | ⟨x, y⟩
      · have h1 : S1 ta = some _ := hta1
        repeat tb_start
        exact hU (twt q') _ _ (by simp [Tm.wt] at hwt'; (first | lia | omega)) ⟨q', res, ep, hs1, hd1, ⟨rs', hst1, hq4⟩, hf, rfl, by simp [Tm.wt] at hwt'; (first | lia | omega), hle1, by tb_rel, by tb_rel, by tb_rel⟩
      · have h1 : S1 ta = some _ := hta1
        repeat tb_start
        refine Cmp_notin_dict hs1 ?_
        refine Tru_bool ?_
        rw [valueAt_true]
        have hone : ∀ b, decide (kk ∈ res) = b → oneV res kk = if b = true then res else res ++ [kk] := by
          intro b hb; unfold oneV
          by_cases h : kk ∈ res
          · have : b = true := by rw [← hb]; simpa using h
            simp [h, this]
          · have : b = false := by rw [← hb]; simpa using h
            simp [h, this]
        cases hin : decide (kk ∈ res)
        case true =>
          have h1' := hone _ hin
          repeat tb_start
          exact hU (twt q') _ _ (by simp [Tm.wt] at hwt'; (first | lia | omega)) ⟨q', res, ep, hs1, hd1, ⟨rs', hst1, hq4⟩, by simpa [Tm.vars, Lf.vars, h1'] using hf, rfl, by simp [Tm.wt] at hwt'; (first | lia | omega), hle1, by tb_rel, by tb_rel, by tb_rel⟩
        case false =>
          have h1' := hone _ hin
          repeat tb_start
          refine SetI_dict hs1 (by simp; (first | lia | omega)) fun ep' => ?_
          have hva : valueAt (res.map fun x => (x, Value.bool true)) kk = none := by
            have := valueAt_true (res := res) (k := kk)
            rw [hin] at this
            simpa using this
          rw [stored_absent hva]
          have tt : Tups S1 (S1.set sn (.dict (res.map (fun x => (x, Value.bool true)) ++ [(kk, .bool true)]) ep')) := fun a vs e => by rw [PH.set_ne (by rintro rfl; rw [hs1] at e; cases e)]; exact e
          have hd2 : (S1.set sn (.dict (res.map (fun x => (x, Value.bool true)) ++ [(kk, .bool true)]) ep')) d = some (.list (iL res)) := by rw [PH.set_ne hsd.symm]; exact hd1
          have hst2 : (S1.set sn (.dict (res.map (fun x => (x, Value.bool true)) ++ [(kk, .bool true)]) ep')) st = some (.list (rs'.map .ref)) := by rw [PH.set_ne hsst.symm]; exact hst1
          have hta2 := tt _ _ h1
          have hs2 : (S1.set sn (.dict (res.map (fun x => (x, Value.bool true)) ++ [(kk, .bool true)]) ep')) sn = some (.dict (res.map (fun x => (x, Value.bool true)) ++ [(kk, .bool true)]) ep') := PH.set_same ..
          have hle2 : Le S (S1.set sn (.dict (res.map (fun x => (x, Value.bool true)) ++ [(kk, .bool true)]) ep')) := hle1.set hSsn
          have hq5 : All2 (TmAt (S1.set sn (.dict (res.map (fun x => (x, Value.bool true)) ++ [(kk, .bool true)]) ep'))) rs' q' := hq4.mono fun _ _ x => x.mono tt
          generalize S1.set sn (.dict (res.map (fun x => (x, Value.bool true)) ++ [(kk, .bool true)]) ep') = S2 at *
          repeat tb_start
          have tt2 : Tups S2 (S2.set d (.list (iL res ++ [.int kk 0]))) := fun a vs e => by rw [PH.set_ne (by rintro rfl; rw [hd2] at e; cases e)]; exact e
          exact hU (twt q') _ _ (by simp [Tm.wt] at hwt'; (first | lia | omega)) ⟨q', res ++ [kk], ep', by rw [PH.set_ne hsd, hs2]; simp, by rw [PH.set_same]; simp [iL], ⟨rs', by rw [PH.set_ne hdst.symm]; exact hst2, hq5.mono fun _ _ x => x.mono tt2⟩, by simpa [Tm.vars, Lf.vars, h1'] using hf, rfl, by simp [Tm.wt] at hwt' ⊢; (first | lia | omega), hle2.set hSd, by tb_rel, by tb_rel, by tb_rel⟩
      · obtain ⟨p', xa, ya, h1, h2, h3, h4⟩ := hta1
        repeat tb_start
        refine CallW_reversed_tup h2 (by simp) fun rv o hrv ho => ?_
        repeat tb_start
        refine CallW_extend_rev hrv hst1 h2 ho (by simp) (by have := hq4.length; simp; (first | lia | omega)) ?_
        repeat tb_start
        have tt : Tups S1 (S1.set st (.list (rs'.map .ref ++ [Value.ref xa, Value.ref ya].reverse))) := fun a vs e => by rw [PH.set_ne (by rintro rfl; rw [hst1] at e; cases e)]; exact e
        refine hU (twt (q' ++ [.lf y, .lf x])) _ _ ?_ ⟨q' ++ [.lf y, .lf x], res, ep, by rw [PH.set_ne hsst]; exact hs1, by rw [PH.set_ne hdst]; exact hd1, ⟨rs' ++ [ya, xa], by rw [PH.set_same]; simp, (hq4.mono fun _ _ x => x.mono tt).append (.cons (show TmAt _ ya (.lf y) from h4.mono tt) (.cons (show TmAt _ xa (.lf x) from h3.mono tt) .nil))⟩, ?_, rfl, ?_, hle1.set hSst, by tb_rel, by tb_rel, by tb_rel⟩
        · rw [twt_app]; simp [twt, Tm.wt] at hwt' ⊢; (first | lia | omega)
        · rw [← hf]; simp [tvars, Tm.vars]
        · rw [twt_app]; simp [twt, Tm.wt] at hwt' ⊢; (first | lia | omega)

theorem variables_spec {r : Addr} {t : Tm} (ht : TmAt S r t) : CallC D (n + 2) (.ref 101) [.ref r] S fun v S' => ∃ d, v = .ref d ∧ S d = none ∧ S' d = some (.list (iL (dedupI t.vars))) ∧ Le S S' := by
  refine CallC_fn (fn_variables _) loc_variables rfl fun L env fe T hT => ?_
  change EX _ _ _ (execs [_] _) _ _ _
  simp only [locs]
  repeat tb_start
  refine ⟨by simp, fun l hl => ?_⟩
  repeat tb_start
  refine CallW_do (variables_of_spec (PH.set_same ..) (ht.mono (Le.new hl).tups)) fun v S' z => ?_
  obtain ⟨d, e1, e2, e3, e4⟩ := z
  exact hT _ _ ⟨d, e1, (Le.new hl).none e2, e3, (Le.new hl).trans e4⟩
end
section
variable {D : Wd} {n : Nat} {S : PH}
set_option maxHeartbeats 1000000

noncomputable def newVi (k : Int) (first : Str) : Vi := ⟨k, Str.ofString "temp", 0, first, false, -1, 0, 0, 0⟩
theorem VarInfo_spec {k : Int} {first : Str} : CallC D (n + 2) (.ref 132) [.int k 0, .str first 0] S fun v S' => ∃ x, v = .ref x ∧ S x = none ∧ S' = S.set x (.inst 132 (newVi k first).fs) := by
  refine CallC_make (co_VarInfo _) (ini_VarInfo _) (ity_VarInfo _) fun x hx => ?_
  refine CallC_fn (fn_VarInfoInit _) loc_VarInfoInit rfl fun L env fe T hT => ?_
  change EX _ _ _ (execs [_, _, _, _, _, _, _, _, _] _) _ _ _
  simp only [locs]
  repeat tb_start
  simp only [set_set]
  exact hT _ _ ⟨rfl, x, rfl, hx, rfl⟩
theorem KernelClause_spec {pa lg : Addr} : CallC D (n + 2) (.ref 38) [.int 1 0, .ref pa, .ref lg, .int 7 0] S fun v S' => ∃ x, v = .ref x ∧ S x = none ∧
    S' = S.set x (.inst 38 [(Str.ofString "functor", .int 1 0), (Str.ofString "args", .ref pa), (Str.ofString "goals", .ref lg), (Str.ofString "count", .int 7 0)]) := by
  refine CallC_make (co_KernelClause _) (ini_KernelClause _) (ity_KernelClause _) fun x hx => ?_
  refine CallC_fn (fn_KernelClauseInit _) loc_KernelClauseInit rfl fun L env fe T hT => ?_
  change EX _ _ _ (execs [_, _, _, _] _) _ _ _
  simp only [locs]
  repeat tb_start
  simp only [set_set]
  exact hT _ _ ⟨rfl, x, rfl, hx, rfl⟩
theorem ClausePlan_spec {di lc ll : Addr} {needs : Bool} {ev : Int} : CallC D (n + 2) (.ref 188) [.ref di, .ref lc, .bool needs, .int ev 0, .ref ll] S fun v S' => ∃ x, v = .ref x ∧ S x = none ∧ S' = S.set x (.inst 188 (pfs di lc needs ev ll)) := by
  refine CallC_make (co_ClausePlan _) (ini_ClausePlan _) (ity_ClausePlan _) fun x hx => ?_
  refine CallC_fn (fn_ClausePlanInit _) loc_ClausePlanInit rfl fun L env fe T hT => ?_
  change EX _ _ _ (execs [_, _, _, _, _] _) _ _ _
  simp only [locs]
  repeat tb_start
  simp only [set_set]
  exact hT _ _ ⟨rfl, x, rfl, hx, rfl⟩
theorem Survey_spec : CallC D (n + 2) (.ref 230) [] S fun v S' => ∃ x d, v = .ref x ∧ S x = none ∧ S d = none ∧ x ≠ d ∧ S' = (S.set d (.dict [] 0)).set x (.inst 230 [(Str.ofString "infos", .ref d)]) := by
  refine CallC_make (co_Survey _) (ini_Survey _) (ity_Survey _) fun x hx => ?_
  refine CallC_fn (fn_SurveyInit _) loc_SurveyInit rfl fun L env fe T hT => ?_
  change EX _ _ _ (execs [_] _) _ _ _
  simp only [locs]
  repeat tb_start
  intro d hd
  have hxd : x ≠ d := by rintro rfl; rw [PH.set_same] at hd; cases hd
  repeat tb_start
  refine hT _ _ ⟨rfl, x, d, rfl, hx, by rwa [PH.set_ne hxd.symm] at hd, hxd, ?_⟩
  funext b
  unfold PH.set
  by_cases h1 : b = x <;> by_cases h2 : b = d <;> simp [h1, h2, hxd, hxd.symm]

/-! the infos of a survey, at object level -/
structure InfOk (N : Addr → Prop) (S : PH) (d : Addr) (K : KVi) : Prop where
  dict : ∃ ep, S d = some (.dict (vDict K) ep)
  vis : ∀ e ∈ K, S e.2.1 = some (.inst 132 e.2.2.fs)
  new : ∀ e ∈ K, N e.2.1
  newd : N d
  rng : ∀ e ∈ K, 0 ≤ e.1 ∧ e.1 ≤ 6
  nd : (K.map (·.2.1)).Nodup
  ks : (K.map (·.1)).Nodup
theorem InfOk.mono {N : Addr → Prop} {S S' : PH} {d : Addr} {K : KVi} (h : InfOk N S d K) (k : Le S S') : InfOk N S' d K :=
  ⟨let ⟨ep, e⟩ := h.dict; ⟨ep, k _ _ e⟩, fun e he => k _ _ (h.vis e he), h.new, h.newd, h.rng, h.nd, h.ks⟩
theorem InfOk.weaken {N N' : Addr → Prop} {S : PH} {d : Addr} {K : KVi} (h : InfOk N S d K) (k : ∀ a, N a → N' a) : InfOk N' S d K := ⟨h.dict, h.vis, fun e he => k _ (h.new e he), k _ h.newd, h.rng, h.nd, h.ks⟩
theorem InfOk.small {N : Addr → Prop} {S : PH} {d : Addr} {K : KVi} (h : InfOk N S d K) : K.length ≤ 7 := by
  have := nodup_seven (K.map (·.1)) h.ks (fun x hx => by obtain ⟨e, he, rfl⟩ := List.mem_map.mp hx; exact h.rng e he)
  simpa using this
/-- a change at an object that is not of the infos -/
theorem InfOk.other {N : Addr → Prop} {S : PH} {d a : Addr} {K : KVi} {y : AObj} (h : InfOk N S d K) (ha : ¬ N a) : InfOk N (S.set a y) d K := by
  refine ⟨?_, fun e he => ?_, h.new, h.newd, h.rng, h.nd, h.ks⟩
  · obtain ⟨ep, hd⟩ := h.dict
    exact ⟨ep, by rw [PH.set_ne (by rintro rfl; exact ha h.newd)]; exact hd⟩
  · have := h.new e he
    rw [PH.set_ne (by rintro q; rw [q] at this; exact ha this)]; exact h.vis e he
theorem InfOk.avoid {N : Addr → Prop} {S : PH} {d a : Addr} {K : KVi} {x : AObj} (h : InfOk N S d K) (ha : S a = none) : InfOk (fun b => N b ∧ b ≠ a) (S.set a x) d K := by
  have h' := h.mono (Le.new (x := x) ha)
  refine ⟨h'.dict, h'.vis, fun e he => ⟨h.new e he, ?_⟩, ⟨h.newd, ?_⟩, h.rng, h.nd, h.ks⟩
  · intro q; have := h.vis e he; rw [q, ha] at this; cases this
  · obtain ⟨ep, hd⟩ := h.dict
    intro q; rw [q, ha] at hd; cases hd
noncomputable def kUpd (K : KVi) (k : Int) (f : Vi → Vi) : KVi := K.map fun e => if e.1 = k then (e.1, e.2.1, f e.2.2) else e
theorem kUpd_dict (K : KVi) (k : Int) (f : Vi → Vi) : vDict (kUpd K k f) = vDict K := by
  unfold vDict kUpd; rw [List.map_map]; refine List.map_congr_left fun e _ => ?_
  by_cases h : e.1 = k <;> simp [h]
theorem kUpd_addrs (K : KVi) (k : Int) (f : Vi → Vi) : (kUpd K k f).map (·.2.1) = K.map (·.2.1) := by
  unfold kUpd; rw [List.map_map]; refine List.map_congr_left fun e _ => ?_
  by_cases h : e.1 = k <;> simp [h]
theorem kUpd_keys (K : KVi) (k : Int) (f : Vi → Vi) : (kUpd K k f).map (·.1) = K.map (·.1) := by
  unfold kUpd; rw [List.map_map]; refine List.map_congr_left fun e _ => ?_
  by_cases h : e.1 = k <;> simp [h]
theorem InfOk.upd {N : Addr → Prop} {S : PH} {d : Addr} {K : KVi} {e : Int × Addr × Vi} {f : Vi → Vi} (h : InfOk N S d K) (he : e ∈ K) : InfOk N (S.set e.2.1 (.inst 132 (f e.2.2).fs)) d (kUpd K e.1 f) := by
  have hv := h.vis e he
  refine ⟨?_, ?_, ?_, h.newd, ?_, by rw [kUpd_addrs]; exact h.nd, by rw [kUpd_keys]; exact h.ks⟩
  · obtain ⟨ep, hd⟩ := h.dict
    refine ⟨ep, ?_⟩
    rw [kUpd_dict, PH.set_ne (by rintro rfl; rw [hd] at hv; cases hv)]; exact hd
  · intro e' he'
    obtain ⟨e0, h0, rfl⟩ := List.mem_map.mp he'
    by_cases q : e0.1 = e.1
    · have : e0 = e := nodup_inj h.ks h0 he q
      subst this
      simp only [if_true]; exact PH.set_same ..
    · have q2 : e0.2.1 ≠ e.2.1 := fun q2 => q (by rw [nodup_inj h.nd h0 he q2])
      simp only [q, if_false]
      rw [PH.set_ne q2]; exact h.vis e0 h0
  · intro e' he'
    obtain ⟨e0, h0, rfl⟩ := List.mem_map.mp he'
    have := h.new e0 h0
    by_cases q : e0.1 = e.1 <;> simp [q, this]
  · intro e' he'
    obtain ⟨e0, h0, rfl⟩ := List.mem_map.mp he'
    have := h.rng e0 h0
    by_cases q : e0.1 = e.1
    · simp only [q, if_true]; exact q ▸ this
    · simp only [q, if_false]; exact this
theorem InfOk.dflt {N : Addr → Prop} {S : PH} {d a : Addr} {K : KVi} {k : Int} {ep : Nat} {v : Vi} (h : InfOk N S d K) (hN : N a) (hr : 0 ≤ k ∧ k ≤ 6) (ha : S a = none) (hk : valueAt (vDict K) k = none) :
    InfOk N ((S.set a (.inst 132 v.fs)).set d (.dict (stored (vDict K) k (.ref a)) ep)) d (K ++ [(k, a, v)]) := by
  obtain ⟨ep0, hd⟩ := h.dict
  have hda : d ≠ a := by rintro rfl; rw [hd] at ha; cases ha
  have nokey : ∀ e ∈ K, e.1 ≠ k := by
    rw [valueAt_vDict, Option.map_eq_none_iff, List.find?_eq_none] at hk
    intro e he q; exact hk e he (by simpa using q)
  refine ⟨⟨ep, ?_⟩, ?_, ?_, h.newd, ?_, ?_, ?_⟩
  · rw [PH.set_same, stored_absent hk]; simp [vDict]
  · intro e he
    rcases List.mem_append.mp he with he | he
    · have a1 := h.vis e he
      rw [PH.set_ne (by intro q; rw [q, hd] at a1; cases a1), PH.set_ne (by intro q; rw [q, ha] at a1; cases a1)]; exact a1
    · have := List.mem_singleton.mp he
      subst this
      rw [PH.set_ne hda.symm]; exact PH.set_same ..
  · intro e he
    rcases List.mem_append.mp he with he | he
    · exact h.new e he
    · have := List.mem_singleton.mp he
      subst this; exact hN
  · intro e he
    rcases List.mem_append.mp he with he | he
    · exact h.rng e he
    · have := List.mem_singleton.mp he
      subst this; exact hr
  · rw [List.map_append, List.nodup_append]
    refine ⟨h.nd, by simp, ?_⟩
    intro x hx y hy q
    have : y = a := by simpa using hy
    subst this; subst q
    obtain ⟨e, he, rfl⟩ := List.mem_map.mp hx
    have a1 := h.vis e he
    rw [ha] at a1; cases a1
  · rw [List.map_append, List.nodup_append]
    refine ⟨h.ks, by simp, ?_⟩
    intro x hx y hy q
    have : y = k := by simpa using hy
    subst this; subst q
    obtain ⟨e, he, e1⟩ := List.mem_map.mp hx
    exact nokey e he e1

/-- one meeting, plainly -/
noncomputable def updV (I : Infos) (k : Int) (f : Vi → Vi) : Infos := I.map fun e => if e.1 = k then (e.1, f e.2) else e
noncomputable def meetI (I : Infos) (k : Int) (first : Str) (goal chunk count : Int) : Infos :=
  updV (if I.any (fun e => decide (e.1 = k)) then I else I ++ [(k, { newVi k first with fc := chunk })]) k fun v => { v with count := v.count + count, last := goal, lc := chunk }
theorem kV_upd (K : KVi) (k : Int) (f : Vi → Vi) : kV (kUpd K k f) = updV (kV K) k f := by
  unfold kV kUpd updV; rw [List.map_map, List.map_map]; refine List.map_congr_left fun e _ => ?_
  by_cases h : e.1 = k <;> simp [h]
theorem kV_any (K : KVi) (k : Int) : (kV K).any (fun e => decide (e.1 = k)) = K.any (fun e => decide (e.1 = k)) := by simp [kV, List.any_map]; rfl
theorem find_any {K : KVi} {k : Int} : (valueAt (vDict K) k).isSome = K.any (fun e => decide (e.1 = k)) := by
  rw [valueAt_vDict, Option.isSome_map]
  induction K with
  | nil => rfl
  | cons e r ih =>
    rw [List.find?_cons, List.any_cons]
    by_cases h : e.1 = k
    · simp [h]
    · simp only [h, decide_false, Bool.false_or]; exact ih

theorem meet_spec {N : Addr → Prop} {sv d : Addr} {K : KVi} {k goal chunk count : Int} {first : Str} (hs : S sv = some (.inst 230 [(Str.ofString "infos", .ref d)])) (hK : InfOk N S d K) (hsv : ¬ N sv) (hN : ∀ a, S a = none → N a) (hr : 0 ≤ k ∧ k ≤ 6) :
    CallC D (n + 3) (.ref 220) [.ref sv, .int k 0, .str first 0, .int goal 0, .int chunk 0, .int count 0] S fun v S' => v = .none ∧ ∃ K', InfOk N S' d K' ∧ kV K' = meetI (kV K) k first goal chunk count ∧ Ext N S S' := by
  refine CallC_fn (fn_Surveymeet _) loc_Surveymeet rfl fun L env fe T hT => ?_
  change EX _ _ _ (execs [_, _, _, _, _] _) _ _ _
  simp only [locs]
  obtain ⟨ep, hd⟩ := hK.dict
  repeat tb_start
  refine Cmp_notin_dict hd ?_
  refine Tru_bool ?_
  refine join_if (fun S2 m2 => ∃ K2, InfOk N S2 d K2 ∧ kV K2 = (if (kV K).any (fun e => decide (e.1 = k)) then kV K else kV K ++ [(k, { newVi k first with fc := chunk })]) ∧ Ext N S S2 ∧
    m2 (Str.ofString "self") = some (.ref sv) ∧ m2 (Str.ofString "k") = some (.int k 0) ∧ m2 (Str.ofString "goal") = some (.int goal 0) ∧ m2 (Str.ofString "chunk") = some (.int chunk 0) ∧ m2 (Str.ofString "count") = some (.int count 0)) ?_ ?_ ?_
  · intro V hV hno
    have hno : valueAt (vDict K) k = none := by simpa using hno
    repeat tb_start
    refine CallW_do VarInfo_spec fun v S1 z => ?_
    obtain ⟨x, e1, e2, e3⟩ := z
    subst e1 e3
    repeat tb_start
    refine SetI_dict (PH.keep_new e2 hd) (by have := hK.small; simp [vDict]; (first | lia | omega)) fun ep' => ?_
    have hN2 := hK.dflt (v := newVi k first) (ep := ep') (hN _ e2) hr e2 hno
    have hext : Ext N S ((S.set x (.inst 132 (newVi k first).fs)).set d (.dict (stored (vDict K) k (.ref x)) ep')) := ((Ext.refl N S).new e2).own (PH.keep_new e2 hd) hK.newd (by simp)
    have hs2 := hext.keep _ _ hsv hs
    obtain ⟨ep2, hd2⟩ := hN2.dict
    have hx2 := hN2.vis (k, x, newVi k first) (by simp)
    have hva : valueAt (vDict (K ++ [(k, x, newVi k first)])) k = some (.ref x) := by
      have := find_of_mem hN2.ks (e := (k, x, newVi k first)) (by simp)
      rw [valueAt_vDict, this]; rfl
    have hup := hN2.upd (f := fun v => { v with fc := chunk }) (e := (k, x, newVi k first)) (by simp)
    dsimp only at hup hx2
    have hext2 := fun y => hext.own (x := y) hx2 (hN _ e2) (by simp)
    clear hext
    generalize (S.set x (.inst 132 (newVi k first).fs)).set d (.dict (stored (vDict K) k (.ref x)) ep') = S2 at *
    repeat tb_start
    refine Sub_dict hd2 hva ?_ (by intro _; with_unfolding_all rfl)
    repeat tb_start
    refine hV _ _ ⟨_, hup, ?_, hext2 _, by tb_rel, by tb_rel, by tb_rel, by tb_rel, by tb_rel⟩
    have hnone : (kV K).any (fun e => decide (e.1 = k)) = false := by rw [kV_any, ← find_any, hno]; rfl
    rw [kV_upd, hnone, if_neg (by decide)]
    have hn2 : ∀ e ∈ kV K, ¬ e.1 = k := fun e he h => by
      have := (List.any_eq_false.mp hnone) e he
      exact this (by simpa using h)
    unfold updV
    rw [show kV (K ++ [(k, x, newVi k first)]) = kV K ++ [(k, newVi k first)] by simp [kV], List.map_append]
    congr 1
    · have : ∀ l : Infos, (∀ e ∈ l, ¬ e.1 = k) → (l.map fun e => if e.1 = k then (e.1, { e.2 with fc := chunk }) else e) = l := by
        intro l
        induction l with
        | nil => intro _; rfl
        | cons e l ih => intro h; rw [List.map_cons, if_neg (h e (List.mem_cons_self ..)), ih fun x hx => h x (.tail _ hx)]
      exact this _ hn2
    · simp
  · intro V hV hyes
    repeat tb_start
    have h1 : (valueAt (vDict K) k).isSome = true := by simpa using hyes
    refine hV _ _ ⟨K, hK, ?_, Ext.refl _ _, by tb_rel, by tb_rel, by tb_rel, by tb_rel, by tb_rel⟩
    rw [kV_any, ← find_any, h1, if_pos rfl]
  · rintro S2 m2 ⟨K2, hK2, hkv, hext, q1, q2, q3, q4, q5⟩
    have hs2 := hext.keep _ _ hsv hs
    obtain ⟨ep2, hd2⟩ := hK2.dict
    obtain ⟨e, he, hek⟩ : ∃ e ∈ K2, e.1 = k := by
      have : (kV K2).any (fun e => decide (e.1 = k)) = true := by
        rw [hkv]
        cases h : (kV K).any (fun e => decide (e.1 = k))
        · rw [if_neg (by decide)]; simp
        · rw [if_pos rfl]; exact h
      rw [kV_any, List.any_eq_true] at this
      obtain ⟨e, he, h⟩ := this
      exact ⟨e, he, by simpa using h⟩
    subst hek
    have hva : valueAt (vDict K2) e.1 = some (.ref e.2.1) := by rw [valueAt_vDict, find_of_mem hK2.ks he]; rfl
    have hx2 := hK2.vis e he
    repeat tb_start
    refine Sub_dict hd2 hva ?_ (by intro _; with_unfolding_all rfl)
    repeat tb_start
    simp only [set_set]
    refine hT _ _ ⟨rfl, _, hK2.upd (f := fun v => { v with count := v.count + count, last := goal, lc := chunk }) he, ?_, hext.own hx2 (hK2.new e he) (by simp)⟩
    rw [kV_upd, hkv]; rfl
end
section
variable {D : Wd} {n : Nat} {S : PH}
set_option maxHeartbeats 1000000

/-! the meetings of a row of terms, plainly -/
structure Ev where
  k : Int
  w : Str
  goal : Int
  chunk : Int
  c : Int
noncomputable def oneMeet (I : Infos) (e : Ev) : Infos := meetI I e.k e.w e.goal e.chunk e.c
noncomputable def cntOf (ks : List Int) (k : Int) : Int := match valueAt (occI ks) k with | some (.int c _) => c | _ => 0
noncomputable def Tm.mts (pl : Str) (goal chunk : Int) : Tm → List Ev
  | .lf (.v k) => [⟨k, pl ++ Str.ofString "_arg", goal, chunk, 1⟩]
  | t => (dedupI t.vars).map fun k => ⟨k, pl ++ Str.ofString "_struct", goal, chunk, cntOf t.vars k⟩
noncomputable def rowMts (pl : Str) (goal chunk : Int) (ts : List Tm) : List Ev := ts.flatMap (Tm.mts pl goal chunk)
theorem Tm.ok_vars {t : Tm} (h : t.ok) : ∀ k ∈ t.vars, 0 ≤ k ∧ k ≤ 6 := by
  have hl : ∀ l : Lf, l.ok → ∀ k ∈ l.vars, 0 ≤ k ∧ k ≤ 6 := by
    intro l hl k hk
    cases l with
    | a => cases hk
    | v c => have : k = c := by simpa [Lf.vars] using hk
             subst this; obtain ⟨h1, h2⟩ := hl; exact ⟨h1, by (first | lia | omega)⟩
  cases t with
  | lf l => exact hl l h
  | s x y =>
    intro k hk
    rcases List.mem_append.mp hk with hk | hk
    · exact hl x h.1 k hk
    · exact hl y h.2 k hk
theorem mem_dedup : ∀ {ks : List Int} {k : Int}, k ∈ dedupI ks ↔ k ∈ ks := by
  have key : ∀ (ks res : List Int) (k : Int), k ∈ ks.foldl oneV res ↔ k ∈ res ∨ k ∈ ks := by
    intro ks
    induction ks with
    | nil => intro res k; simp
    | cons x ks ih =>
      intro res k
      rw [List.foldl_cons, ih]
      unfold oneV
      split
      · rename_i h
        constructor
        · rintro (h1 | h1)
          · exact .inl h1
          · exact .inr (.tail _ h1)
        · rintro (h1 | h1)
          · exact .inl h1
          · rcases List.mem_cons.mp h1 with rfl | h1
            · exact .inl h
            · exact .inr h1
      · simp [or_assoc]
  intro ks k
  have := key ks [] k
  simpa [dedupI] using this
theorem dedup_len (ks : List Int) : (dedupI ks).length ≤ ks.length := by
  have key : ∀ (ks res : List Int), (ks.foldl oneV res).length ≤ res.length + ks.length := by
    intro ks
    induction ks with
    | nil => intro res; simp
    | cons x ks ih =>
      intro res
      have h1 := ih (oneV res x)
      have h2 := oneV_len res x
      simp only [List.foldl_cons, List.length_cons]; (first | lia | omega)
  simpa [dedupI] using key ks []
theorem stored_get (kvs : List (Int × Value)) (k j : Int) (v : Value) : valueAt (stored kvs k v) j = if j = k then some v else valueAt kvs j := by
  unfold stored
  cases h : kvs.any (fun kv => decide (kv.1 = k))
  · rw [if_neg (by decide)]
    unfold valueAt
    rw [List.find?_append]
    by_cases hj : j = k
    · subst hj
      have : kvs.find? (fun kv => decide (kv.1 = j)) = none := by
        rw [List.find?_eq_none]; intro x hx; exact (List.any_eq_false.mp h) x hx
      rw [this]; simp
    · have hj' : ¬ k = j := fun e => hj e.symm
      simp [hj, hj']
  · rw [if_pos rfl]
    have hany := h
    clear h
    · induction kvs with
      | nil => simp at hany
      | cons e r ih =>
        unfold valueAt at ih ⊢
        rw [List.map_cons, List.find?_cons, List.find?_cons]
        by_cases h1 : e.1 = k
        · by_cases hj : j = k
          · simp [h1, hj]
          · have hj' : ¬ k = j := fun e => hj e.symm
            simp only [h1, if_true, hj', decide_false, hj, if_false]
            clear ih
            all_goals
              congr 1
              clear hany
              induction r with
              | nil => rfl
              | cons x r ih =>
                rw [List.map_cons, List.find?_cons, List.find?_cons]
                by_cases hx : x.1 = k
                · simp only [hx, if_true, hj', decide_false]; exact ih
                · simp only [hx, if_false]
                  by_cases hxj : x.1 = j
                  · simp [hxj]
                  · simp only [hxj, decide_false]; exact ih
        · simp only [h1, if_false]
          have hr : r.any (fun kv => decide (kv.1 = k)) = true := by simpa [h1] using hany
          by_cases hej : e.1 = j
          · have : ¬ j = k := fun q => h1 (hej.trans q)
            simp [hej, this]
          · simp only [hej, decide_false]; exact ih hr

theorem occ_get (ks : List Int) (k : Int) (h : k ∈ ks) : valueAt (occI ks) k = some (.int (cntOf ks k) 0) := by
  have key : ∀ (ks : List Int) (kvs : List (Int × Value)), isC kvs → isC (ks.foldl oneC kvs) ∧ ∀ k, (k ∈ ks ∨ (valueAt kvs k).isSome = true) → (valueAt (ks.foldl oneC kvs) k).isSome = true := by
    intro ks
    induction ks with
    | nil => intro kvs h; exact ⟨h, fun k hk => by simpa using hk⟩
    | cons x ks ih =>
      intro kvs h
      obtain ⟨h1, h2⟩ := ih (oneC kvs x) (isC_one h)
      refine ⟨h1, fun k hk => h2 k ?_⟩
      by_cases hx : k ∈ ks
      · exact .inl hx
      · right
        unfold oneC
        rw [stored_get]
        by_cases hkx : k = x
        · simp [hkx]
        · rcases hk with hk | hk
          · rcases List.mem_cons.mp hk with e | hk
            · exact absurd e hkx
            · exact absurd hk hx
          · simpa [hkx] using hk
  obtain ⟨h1, h2⟩ := key ks [] (by simp [isC])
  have h3 := h2 k (.inl h)
  have h4 : (valueAt (occI ks) k).isSome = true := h3
  unfold cntOf
  cases hv : valueAt (occI ks) k with
  | none => rw [hv] at h4; cases h4
  | some v =>
    have hv' := hv
    unfold valueAt at hv'
    obtain ⟨p, hp, rfl⟩ := Option.map_eq_some_iff.mp hv'
    obtain ⟨c, hc⟩ := h1 p (List.mem_of_find?_eq_some hp)
    rw [hc]

noncomputable def Tm.isV : Tm → Bool
  | .lf (.v _) => true
  | _ => false
theorem Tm.isV_of {t : Tm} (h : t.isV = true) : ∃ k, t = .lf (.v k) := by
  rcases t with (_ | k) | ⟨x, y⟩
  · cases h
  · exact ⟨k, rfl⟩
  · cases h
theorem Tm.mts_not {t : Tm} {pl : Str} {goal chunk : Int} (h : t.isV = false) : t.mts pl goal chunk = (dedupI t.vars).map fun k => ⟨k, pl ++ Str.ofString "_struct", goal, chunk, cntOf t.vars k⟩ := by
  rcases t with (_ | k) | ⟨x, y⟩
  · rfl
  · cases h
  · rfl
/-- term[0] == 'v' -/
theorem tm_head {L : Addr} {m : Loc} {value slice : Expr} {r : Addr} {t : Tm} {Q : Value → PH → Loc → Prop} (ht : TmAt S r t) (h : ∀ w : Str, (w == Str.ofString "v") = t.isV → Q (.str w 0) S m)
    (hs : ∀ u, subscripted slice false (.ref r) (.int 0 u) = operate [.ref r, .int 0 u] (getItem (.ref r) (.int 0 u))) : Sub D n L value slice (.ref r) (.int 0 0) S m Q := by
  rcases t with (_ | k) | ⟨x, y⟩
  · have h1 : S r = some _ := ht; exact Sub_tup h1 (by decide) (by decide) rfl (h _ (by simp only [Tm.isV]; decide)) hs
  · have h1 : S r = some _ := ht; exact Sub_tup h1 (by decide) (by decide) rfl (h _ (by simp only [Tm.isV]; decide)) hs
  · obtain ⟨p, a, b, h1, _⟩ := ht; exact Sub_tup h1 (by decide) (by decide) rfl (h _ (by simp only [Tm.isV]; decide)) hs
theorem terms_spec {N : Addr → Prop} {sv d p : Addr} {K : KVi} {ts : List Tm} {goal chunk : Int} {pl : Str} (hs : S sv = some (.inst 230 [(Str.ofString "infos", .ref d)])) (hK : InfOk N S d K) (hsv : ¬ N sv) (hN : ∀ a, S a = none → N a)
    (hts : TmsAt S p ts) (h3 : ts.length ≤ 3) (hok : ∀ t ∈ ts, t.ok) (hpl : pl.length ≤ 10) :
    CallC D (n + 4) (.ref 227) [.ref sv, .ref p, .str pl 0, .int goal 0, .int chunk 0] S fun v S' => v = .none ∧ ∃ K', InfOk N S' d K' ∧ kV K' = (rowMts pl goal chunk ts).foldl oneMeet (kV K) ∧ Ext N S S' := by
  obtain ⟨rs, hp, hrs⟩ := hts
  refine CallC_fn (fn_Surveyterms _) loc_Surveyterms rfl fun L env fe T hT => ?_
  change EX _ _ _ (execs [_] _) _ _ _
  simp only [locs]
  repeat tb_start
  refine forK_tup (vs := rs.map .ref) (fun i S' m' => ∃ K', InfOk N S' d K' ∧ kV K' = (rowMts pl goal chunk (ts.take i)).foldl oneMeet (kV K) ∧ Ext N S S' ∧
    m' (Str.ofString "self") = some (.ref sv) ∧ m' (Str.ofString "place") = some (.str pl 0) ∧ m' (Str.ofString "goal") = some (.int goal 0) ∧ m' (Str.ofString "chunk") = some (.int chunk 0)) hp ?_ ?_ ?_ ?_
  · exact ⟨K, hK, rfl, Ext.refl _ _, by tb_rel, by tb_rel, by tb_rel, by tb_rel⟩
  · rintro i S' m' ⟨_, _, _, hE, _⟩; exact hE.tups _ _ hp
  · rintro i S' m' Ui hUi hi ⟨K', hK', hkv, hE, n1, n2, n3, n4⟩
    obtain ⟨t, ht⟩ : ∃ t, ts[i]? = some t := ⟨_, List.getElem?_eq_getElem (by rw [List.length_map, hrs.length] at hi; exact hi)⟩
    obtain ⟨r, hr, hta⟩ := hrs.get ht
    have hta' := hta.mono hE.tups
    have hokt := hok t (List.mem_of_getElem? ht)
    have hs' := hE.keep _ _ hsv hs
    have hN' : ∀ a, S' a = none → N a := fun a h => hN a (hE.dom a h)
    rw [getElem_of (show (rs.map Value.ref)[i]? = some (.ref r) by rw [List.getElem?_map, hr]; rfl)]
    rw [take_succ_get ht] at hUi
    have hstep : (rowMts pl goal chunk (ts.take i ++ [t])).foldl oneMeet (kV K) = (t.mts pl goal chunk).foldl oneMeet (kV K') := by
      rw [hkv]; unfold rowMts; rw [List.flatMap_append, List.foldl_append]; simp
    rw [hstep] at hUi
    repeat tb_start
    refine tm_head hta' (fun w hw => ?_) (by intro _; with_unfolding_all rfl)
    repeat tb_start
    rw [hw]
    cases hv : t.isV
    case true =>
      obtain ⟨kk, rfl⟩ := Tm.isV_of hv
      have h1 : S' r = some _ := hta'
      repeat tb_start
      refine Met_inst hs' (cok_230 _) (fm_Survey_meet _) (ff_Survey_meet _) (by with_unfolding_all rfl) ?_
      repeat tb_start
      refine CallW_do (meet_spec hs' hK' hsv hN' ⟨hokt.1, by have := hokt.2; (first | lia | omega)⟩) fun v S2 z => ?_
      obtain ⟨e1, K2, hK2, hkv2, hE2⟩ := z
      repeat tb_start
      exact hUi _ _ ⟨K2, hK2, by rw [hkv2]; rfl, hE.trans hE2, by tb_rel, by tb_rel, by tb_rel, by tb_rel⟩
    case false =>
      rw [Tm.mts_not hv] at hUi
      repeat tb_start
      refine CallW_do (occurrences_spec hta') fun v S1 z => ?_
      obtain ⟨dc, epc, e1, e2, e3, hle1⟩ := z
      subst e1
      repeat tb_start
      refine CallW_do (variables_spec (hta'.mono hle1.tups)) fun v S2 z => ?_
      obtain ⟨lv, e4, e5, e6, hle2⟩ := z
      subst e4
      have hle := hle1.trans hle2
      have hdc := hle2 _ _ e3
      have hNl : ¬ N lv ∨ N lv := (Classical.em _).symm
      have hK2 := (hK'.mono hle1).mono hle2
      have hs2 := hle _ _ hs'
      have hS'lv : S' lv = none := hle1.none e5
      have hne1 : dc ≠ lv := by rintro rfl; rw [e3] at e5; cases e5
      have hK3 : InfOk (fun a => N a ∧ a ≠ lv ∧ a ≠ dc) S2 d K' := by
        refine ⟨hK2.dict, hK2.vis, fun e he => ⟨hK2.new e he, ?_, ?_⟩, ⟨hK2.newd, ?_, ?_⟩, hK2.rng, hK2.nd, hK2.ks⟩
        · intro q; have := hK'.vis e he; rw [q, hS'lv] at this; cases this
        · intro q; have := hK'.vis e he; rw [q, e2] at this; cases this
        · intro q; obtain ⟨ep, hd⟩ := hK'.dict; rw [q, hS'lv] at hd; cases hd
        · intro q; obtain ⟨ep, hd⟩ := hK'.dict; rw [q, e2] at hd; cases hd
      have hE2 : Ext N S S2 := hE.trans hle.ext
      repeat tb_start
      refine forK_list (fun j S3 m3 => ∃ K3, InfOk (fun a => N a ∧ a ≠ lv ∧ a ≠ dc) S3 d K3 ∧ kV K3 = (((dedupI (t.vars)).take j).map fun k => (⟨k, pl ++ Str.ofString "_struct", goal, chunk, cntOf (t.vars) k⟩ : Ev)).foldl oneMeet (kV K') ∧ Ext (fun a => N a ∧ a ≠ lv ∧ a ≠ dc) S2 S3 ∧
        m3 (Str.ofString "self") = some (.ref sv) ∧ m3 (Str.ofString "place") = some (.str pl 0) ∧ m3 (Str.ofString "goal") = some (.int goal 0) ∧ m3 (Str.ofString "chunk") = some (.int chunk 0) ∧ m3 (Str.ofString "counts") = some (.ref dc)) e6 ?_ ?_ ?_ ?_
      · exact ⟨K', hK3, rfl, Ext.refl _ _, by tb_rel, by tb_rel, by tb_rel, by tb_rel, by tb_rel⟩
      · rintro j S3 m3 ⟨_, _, _, hE3, _⟩; exact hE3.keep _ _ (fun q => q.2.1 rfl) e6
      · rintro j S3 m3 Uj hUj hj ⟨K3, hK3', hkv3, hE3, q1, q2, q3, q4, q5⟩
        obtain ⟨k, hk⟩ : ∃ k, (dedupI (t.vars))[j]? = some k := ⟨_, List.getElem?_eq_getElem (by simpa using hj)⟩
        have hkm : k ∈ t.vars := mem_dedup.mp (List.mem_of_getElem? hk)
        rw [getElem_of (show (iL (dedupI (t.vars)))[j]? = some (.int k 0) by rw [iL, List.getElem?_map, hk]; rfl)]
        rw [take_succ_get hk, List.map_append, List.foldl_append, ← hkv3] at hUj
        have hs3 := hE3.keep _ _ (fun q => hsv q.1) hs2
        have hdc3 := hE3.keep _ _ (fun q => q.2.2 rfl) hdc
        have hN3 : ∀ a, S3 a = none → N a ∧ a ≠ lv ∧ a ≠ dc := fun a h => by
          have h2 := hE3.dom a h
          refine ⟨hN' a (hle.none h2), ?_, ?_⟩
          · rintro rfl; rw [e6] at h2; cases h2
          · rintro rfl; rw [hdc] at h2; cases h2
        repeat tb_start
        refine Met_inst hs3 (cok_230 _) (fm_Survey_meet _) (ff_Survey_meet _) (by with_unfolding_all rfl) ?_
        repeat tb_start
        refine Sub_dict hdc3 (occ_get _ _ hkm) ?_ (by intro _; with_unfolding_all rfl)
        repeat tb_start
        refine CallW_do (meet_spec hs3 hK3' (fun q => hsv q.1) hN3 (Tm.ok_vars hokt k hkm)) fun v S4 z => ?_
        obtain ⟨e7, K4, hK4, hkv4, hE4⟩ := z
        repeat tb_start
        exact hUj _ _ ⟨K4, hK4, by rw [hkv4]; rfl, hE3.trans hE4, by tb_rel, by tb_rel, by tb_rel, by tb_rel, by tb_rel⟩
      · rintro S3 m3 ⟨K3, hK3', hkv3, hE3, q1, q2, q3, q4, q5⟩
        rw [List.take_of_length_le (by simp)] at hkv3
        repeat tb_start
        exact hUi _ _ ⟨K3, hK3'.weaken fun a h => h.1, hkv3, hE2.trans (hE3.mono fun a h => h.1), by tb_rel, by tb_rel, by tb_rel, by tb_rel⟩
  · rintro S' m' ⟨K', hK', hkv, hE, _⟩
    repeat tb_start
    rw [List.take_of_length_le (by rw [List.length_map, hrs.length]; exact Nat.le_refl _)] at hkv
    exact hT _ _ ⟨rfl, K', hK', hkv, hE⟩
end
section
variable {D : Wd} {n : Nat} {S : PH}
set_option maxHeartbeats 1000000

noncomputable def lastOf (I : Infos) (k : Int) : Int := ((getV I k).map (·.last)).getD 0
/-- where k goes: down from a while the one before ends earlier -/
noncomputable def downTo (I : Infos) (x : Int) (order : List Int) : Nat → Nat
  | 0 => 0
  | a + 1 => if lastOf I (order.getD a 0) < x then downTo I x order a else a + 1
noncomputable def insOrd (I : Infos) (order : List Int) (k : Int) : List Int :=
  if ((getV I k).map fun v => v.kind == Str.ofString "perm").getD false then
    let p := downTo I (lastOf I k) order order.length
    order.take p ++ k :: order.drop p
  else order
noncomputable def slotOrder (I : Infos) : List Int := (isort (I.map (·.1))).foldl (insOrd I) []
theorem downTo_le (I : Infos) (x : Int) (order : List Int) : ∀ a, downTo I x order a ≤ a
  | 0 => Nat.le_refl _
  | a + 1 => by unfold downTo; split
                · exact Nat.le_succ_of_le (downTo_le I x order a)
                · exact Nat.le_refl _
theorem insOrd_len (I : Infos) (order : List Int) (k : Int) : (insOrd I order k).length ≤ order.length + 1 := by
  unfold insOrd; split
  · simp; (first | lia | omega)
  · (first | lia | omega)
theorem insOrd_mem {I : Infos} {order : List Int} {k j : Int} (h : j ∈ insOrd I order k) : j ∈ order ∨ j = k := by
  unfold insOrd at h; split at h
  · rcases List.mem_append.mp h with h | h
    · exact .inl (List.mem_of_mem_take h)
    · rcases List.mem_cons.mp h with h | h
      · exact .inr h
      · exact .inl (List.mem_of_mem_drop h)
  · exact .inl h

theorem slot_order_spec {d : Addr} {K : KVi} {ep : Nat} (hd : S d = some (.dict (vDict K) ep)) (hv : ∀ e ∈ K, S e.2.1 = some (.inst 132 e.2.2.fs)) (hks : (K.map (·.1)).Nodup) (hz : K.length ≤ 7) :
    CallC D (n + 1) (.ref 248) [.ref d] S fun v S' => ∃ l, v = .ref l ∧ S l = none ∧ S' = S.set l (.list (iL (slotOrder (kV K)))) := by
  have hkeys : (vDict K).map (·.1) = (kV K).map (·.1) := by simp [vDict, kV]
  have hent : ∀ k ∈ (kV K).map (·.1), ∃ e ∈ K, e.1 = k := by
    intro k hk
    obtain ⟨x, hx, rfl⟩ := List.mem_map.mp hk
    obtain ⟨e, he, rfl⟩ := List.mem_map.mp hx
    exact ⟨e, he, rfl⟩
  have hget : ∀ e ∈ K, getV (kV K) e.1 = some e.2.2 := fun e he => by rw [getV_kV, find_of_mem hks he]; rfl
  have hval : ∀ e ∈ K, valueAt (vDict K) e.1 = some (.ref e.2.1) := fun e he => by rw [valueAt_vDict, find_of_mem hks he]; rfl
  refine CallC_shrink (CallC_fn (fn_slot_order _) loc_slot_order rfl fun L env fe T hT => ?_)
  change EX _ _ _ (execs [_, _, _] _) _ _ _
  simp only [locs]
  repeat tb_start
  refine ⟨by simp, fun l hl => ?_⟩
  repeat tb_start
  refine CallW_sorted_dict (PH.keep_new hl hd) (by simp [vDict]; (first | lia | omega)) fun sl hsl => ?_
  rw [hkeys]
  have hsll : sl ≠ l := by rintro rfl; rw [PH.set_same] at hsl; cases hsl
  have hSsl : S sl = none := by rwa [PH.set_ne hsll] at hsl
  have comm : ∀ x y, (S.set l x).set sl y = (S.set sl y).set l x := by
    intro x y; funext b; unfold PH.set
    by_cases h1 : b = l <;> by_cases h2 : b = sl <;> simp [h1, h2, hsll, hsll.symm]
  have hSl : (S.set sl (.list (iL (isort ((kV K).map (·.1)))))) l = none := by rw [PH.set_ne hsll.symm]; exact hl
  rw [comm]
  have hle0 : Le S (S.set sl (.list (iL (isort ((kV K).map (·.1)))))) := Le.new hSsl
  have hd0 := hle0 _ _ hd
  have hv0 : ∀ e ∈ K, (S.set sl (.list (iL (isort ((kV K).map (·.1)))))) e.2.1 = some (.inst 132 e.2.2.fs) := fun e he => hle0 _ _ (hv e he)
  have hsl0 : (S.set sl (.list (iL (isort ((kV K).map (·.1)))))) sl = some (.list (iL (isort ((kV K).map (·.1))))) := PH.set_same ..
  have hsh : ∀ x, ∃ S'', (∀ b y, S'' b = some y → ((S.set sl (.list (iL (isort ((kV K).map (·.1)))))).set l x) b = some y) ∧ S'' = S.set l x := by
    intro x
    refine ⟨_, fun b y e => ?_, rfl⟩
    by_cases hb : b = l
    · subst hb; rw [PH.set_same] at e ⊢; exact e
    · rw [PH.set_ne hb] at e ⊢; exact hle0 _ _ e
  have hlen : (isort ((kV K).map (·.1))).length = K.length := by rw [isort_length]; simp [kV]
  generalize S.set sl (.list (iL (isort ((kV K).map (·.1))))) = S0 at *
  refine forK_list (fun i S' m' => S' = S0.set l (.list (iL (((isort ((kV K).map (·.1))).take i).foldl (insOrd (kV K)) []))) ∧ (((isort ((kV K).map (·.1))).take i).foldl (insOrd (kV K)) []).length ≤ i ∧
    (∀ k ∈ ((isort ((kV K).map (·.1))).take i).foldl (insOrd (kV K)) [], k ∈ (kV K).map (·.1)) ∧ m' (Str.ofString "infos") = some (.ref d) ∧ m' (Str.ofString "order") = some (.ref l)) (PH.keep_new hSl hsl0) ?_ ?_ ?_ ?_
  · exact ⟨rfl, by simp, by simp, by tb_rel, by tb_rel⟩
  · rintro i S' m' ⟨rfl, _⟩; exact PH.keep_new hSl hsl0
  · rintro i S' m' Ui hUi hi ⟨rfl, hol, hom, n1, n2⟩
    obtain ⟨k, hk⟩ : ∃ k, (isort ((kV K).map (·.1)))[i]? = some k := ⟨_, List.getElem?_eq_getElem (by simpa using hi)⟩
    have hkm : k ∈ (kV K).map (·.1) := (isort_perm _).mem_iff.mp (List.mem_of_getElem? hk)
    obtain ⟨e, he, hek⟩ := hent k hkm
    rw [getElem_of (show (iL (isort ((kV K).map (·.1))))[i]? = some (.int k 0) by rw [iL, List.getElem?_map, hk]; rfl)]
    rw [take_succ_get hk, List.foldl_append] at hUi
    simp only [List.foldl_cons, List.foldl_nil] at hUi
    have hi7 : i < 7 := by simp [hlen] at hi; (first | lia | omega)
    generalize ((isort ((kV K).map (·.1))).take i).foldl (insOrd (kV K)) [] = od at *
    subst hek
    have hd1 : (S0.set l (.list (iL od))) d = _ := PH.keep_new hSl hd0
    have hv1 : (S0.set l (.list (iL od))) e.2.1 = _ := PH.keep_new hSl (hv0 e he)
    have hl1 : (S0.set l (.list (iL od))) l = some (.list (iL od)) := PH.set_same ..
    have hgv := hget e he
    have hz2 : (iL od).length < 2 ^ 60 := by simp; (first | lia | omega)
    have hmem : ∀ j ∈ insOrd (kV K) od e.1, j ∈ (kV K).map (·.1) := fun j hj => by
      rcases insOrd_mem hj with h | h
      · exact hom j h
      · rw [h]; exact hkm
    have hlen2 := insOrd_len (kV K) od e.1
    repeat tb_start
    refine Sub_dict hd1 (hval e he) ?_ (by intro _; with_unfolding_all rfl)
    repeat tb_start
    cases hkd : e.2.2.kind == Str.ofString "perm"
    · have hio : insOrd (kV K) od e.1 = od := by simp [insOrd, hgv, hkd]
      repeat tb_start
      rw [hio] at hUi
      exact hUi _ _ ⟨rfl, by (first | lia | omega), hom, by tb_rel, by tb_rel⟩
    · have hla : lastOf (kV K) e.1 = e.2.2.last := by simp [lastOf, hgv]
      have hio : insOrd (kV K) od e.1 = od.take (downTo (kV K) e.2.2.last od od.length) ++ e.1 :: od.drop (downTo (kV K) e.2.2.last od od.length) := by simp [insOrd, hgv, hkd, hla]
      repeat tb_start
      rw [iL_length]
      refine EX_while' (fun a S2 m2 => S2 = S0.set l (.list (iL od)) ∧ a ≤ od.length ∧ downTo (kV K) e.2.2.last od a = downTo (kV K) e.2.2.last od od.length ∧ m2 (Str.ofString "infos") = some (.ref d) ∧ m2 (Str.ofString "order") = some (.ref l) ∧
        m2 (Str.ofString "k") = some (.int e.1 0) ∧ m2 (Str.ofString "info") = some (.ref e.2.1) ∧ m2 (Str.ofString "at") = some (.int (a : Int) 0)) od.length ?_ ?_
      · exact ⟨rfl, Nat.le_refl _, rfl, by tb_rel, by tb_rel, by tb_rel, by tb_rel, by tb_rel⟩
      · rintro a S2 m2 U hU ⟨rfl, ha, hdn, q1, q2, q3, q4, q5⟩
        have stop : downTo (kV K) e.2.2.last od a = a → ∀ m3 : Loc, m3 (Str.ofString "infos") = some (.ref d) → m3 (Str.ofString "order") = some (.ref l) → m3 (Str.ofString "k") = some (.int e.1 0) → m3 (Str.ofString "at") = some (.int (a : Int) 0) →
            iL (insOrd (kV K) od e.1) = (iL od).take a ++ .int e.1 0 :: (iL od).drop a := by
          intro h _ _ _ _ _
          rw [hio, ← hdn, h]; simp [iL]
        repeat tb_start
        cases a with
        | zero =>
          repeat tb_start
          refine CallW_insert hl1 (by (first | lia | omega)) (by simp) (by simp; (first | lia | omega)) ?_
          repeat tb_start
          rw [set_set]
          have := stop rfl m2 q1 q2 q3 q5
          refine hUi _ _ ⟨by rw [this]; rfl, by (first | lia | omega), hmem, by tb_rel, by tb_rel⟩
        | succ a =>
          have hpos : decide ((0 : Int) < ((a + 1 : Nat) : Int)) = true := by simp
          rw [hpos]
          repeat tb_start
          have e1 : (((a + 1 : Nat) : Int) - 1) = ((a : Nat) : Int) := by (first | lia | omega)
          rw [e1]
          obtain ⟨k2, hk2⟩ : ∃ k2, od[a]? = some k2 := ⟨_, List.getElem?_eq_getElem (by (first | lia | omega))⟩
          obtain ⟨e', he', hek'⟩ := hent k2 (hom k2 (List.mem_of_getElem? hk2))
          have hla2 : lastOf (kV K) (od.getD a 0) = e'.2.2.last := by rw [List.getD_eq_getElem?_getD, hk2, ← hek']; simp [lastOf, hget e' he']
          have hv2 : (S0.set l (.list (iL od))) e'.2.1 = _ := PH.keep_new hSl (hv0 e' he')
          have hval2 := hval e' he'
          rw [hek'] at hval2
          refine Sub_list_nat hl1 (by (first | lia | omega)) (v := .int k2 0) (by rw [iL, List.getElem?_map, hk2]; rfl) ?_ (by intro _; with_unfolding_all rfl)
          refine Sub_dict hd1 hval2 ?_ (by intro _; with_unfolding_all rfl)
          repeat tb_start
          cases hlt : decide (e'.2.2.last < e.2.2.last)
          · have hlt' : ¬ lastOf (kV K) (od.getD a 0) < e.2.2.last := by rw [hla2]; simpa using hlt
            repeat tb_start
            refine CallW_insert hl1 (by (first | lia | omega)) (by simp; (first | lia | omega)) (by simp; (first | lia | omega)) ?_
            repeat tb_start
            rw [set_set]
            have := stop (by unfold downTo; rw [if_neg hlt']) m2 q1 q2 q3 q5
            refine hUi _ _ ⟨by rw [this]; rfl, by (first | lia | omega), hmem, by tb_rel, by tb_rel⟩
          · have hlt' : lastOf (kV K) (od.getD a 0) < e.2.2.last := by rw [hla2]; simpa using hlt
            repeat tb_start
            refine hU a _ _ (Nat.lt_succ_self _) ⟨rfl, by (first | lia | omega), ?_, by tb_rel, by tb_rel, by tb_rel, by tb_rel, by rw [e1]; tb_rel⟩
            rw [← hdn]; conv => rhs; unfold downTo
            rw [if_pos hlt']
  · rintro S' m' ⟨rfl, hol, hom, n1, n2⟩
    repeat tb_start
    rw [List.take_of_length_le (by simp)]
    obtain ⟨S'', h1, h2⟩ := hsh (.list (iL ((isort ((kV K).map (·.1))).foldl (insOrd (kV K)) [])))
    exact hT _ _ ⟨S'', h1, l, rfl, hl, h2⟩
end
section
variable {D : Wd} {n : Nat} {S : PH}
set_option maxHeartbeats 1000000

/-! classify, plainly -/
noncomputable def gMts (c : Int) (i : Int) (g : Gl) : List Ev := (if 0 ≤ g.special then [⟨g.special, Str.ofString "special", i, c, 1⟩] else []) ++ rowMts (Str.ofString "goal") i c g.terms
noncomputable def goalMts : Int → Int → List Gl → List Ev
  | _, _, [] => []
  | c, i, g :: r => gMts c i g ++ goalMts (if g.isCall then c + 1 else c) (i + 1) r
noncomputable def infos0 (as : List Tm) (gs : List Gl) : Infos := (rowMts (Str.ofString "head") (-1) 0 as ++ goalMts 0 0 gs).foldl oneMeet []
noncomputable def withKinds (I : Infos) : Infos := I.map fun e => (e.1, { e.2 with kind := kindOf e.2 })
noncomputable def setSlot (I : Infos) (e : Int × Nat) : Infos := updV I e.1 fun v => { v with slot := (e.2 : Int) + 1, uns := v.first == Str.ofString "goal_arg" }
noncomputable def withSlots (I : Infos) : Infos := (slotOrder I).zipIdx.foldl setSlot I
noncomputable def liveAt (I : Infos) (order : List Int) (i : Nat) : Int := ((order.takeWhile fun k => decide ((i : Int) < lastOf I k)).length : Int)
noncomputable def clsInfos (as : List Tm) (gs : List Gl) : Infos := withSlots (withKinds (infos0 as gs))
noncomputable def clsOrder (as : List Tm) (gs : List Gl) : List Int := slotOrder (withKinds (infos0 as gs))
noncomputable def clsLive (as : List Tm) (gs : List Gl) : List Int := (List.range gs.length).map (liveAt (clsInfos as gs) (clsOrder as gs))
noncomputable def clsNeeds (gs : List Gl) : Bool := (List.range gs.length).any fun i => ((gs[i]?).map Gl.isCall).getD false && decide ((i : Int) + 1 < (gs.length : Int))

theorem chunk_get : ∀ (gs : List Gl) (c : Int) (i : Nat), i < gs.length → (chunkNums c gs)[i]? = some (c + (((gs.take i).filter Gl.isCall).length : Int))
  | g :: r, c, 0, _ => by simp [chunkNums]
  | g :: r, c, i + 1, h => by
    rw [chunkNums, List.getElem?_cons_succ, chunk_get r _ i (by simpa using h), List.take_succ_cons]
    cases hc : g.isCall <;> simp [List.filter_cons, hc]; (first | lia | omega)
theorem goalMts_snoc (g : Gl) : ∀ (l : List Gl) (c b : Int), goalMts c b (l ++ [g]) = goalMts c b l ++ gMts (c + ((l.filter Gl.isCall).length : Int)) (b + l.length) g
  | [], c, b => by simp [goalMts]
  | x :: l, c, b => by
    rw [List.cons_append, goalMts, goalMts, goalMts_snoc g l, List.append_assoc, List.length_cons]
    cases hc : x.isCall
    · simp only [List.filter_cons, hc, Bool.false_eq_true, if_false]
      congr 3; (first | lia | omega)
    · simp only [List.filter_cons, hc, if_true, List.length_cons]
      congr 3
      · push_cast; (first | lia | omega)
      · (first | lia | omega)

theorem kUpd_one {A B : KVi} {e : Int × Addr × Vi} {f : Vi → Vi} (h : ((A ++ e :: B).map (·.1)).Nodup) : kUpd (A ++ e :: B) e.1 f = A ++ (e.1, e.2.1, f e.2.2) :: B := by
  have same : ∀ l : KVi, (∀ x ∈ l, x.1 ≠ e.1) → (l.map fun x => if x.1 = e.1 then (x.1, x.2.1, f x.2.2) else x) = l := by
    intro l
    induction l with
    | nil => intro _; rfl
    | cons x l ih => intro h; rw [List.map_cons, if_neg (h x (List.mem_cons_self ..)), ih fun y hy => h y (.tail _ hy)]
  rw [List.map_append, List.map_cons, List.nodup_append] at h
  obtain ⟨h1, h2, h3⟩ := h
  rw [List.nodup_cons] at h2
  unfold kUpd
  rw [List.map_append, List.map_cons, if_pos rfl, same A, same B]
  · intro x hx q; exact h2.1 (q ▸ List.mem_map.mpr ⟨x, hx, rfl⟩)
  · intro x hx q; exact h3 x.1 (List.mem_map.mpr ⟨x, hx, rfl⟩) e.1 (List.mem_cons_self ..) q
noncomputable def kindE (e : Int × Addr × Vi) : Int × Addr × Vi := (e.1, e.2.1, { e.2.2 with kind := kindOf e.2.2 })
theorem kindE_dict (K : KVi) (j : Nat) : vDict ((K.take j).map kindE ++ K.drop j) = vDict K := by
  conv => rhs; rw [← List.take_append_drop j K]
  unfold vDict; rw [List.map_append, List.map_append, List.map_map]; rfl
theorem mem_slotOrder {I : Infos} {k : Int} (h : k ∈ slotOrder I) : k ∈ I.map (·.1) := by
  have : ∀ (l od : List Int), (∀ k ∈ l, k ∈ I.map (·.1)) → (∀ k ∈ od, k ∈ I.map (·.1)) → ∀ k ∈ l.foldl (insOrd I) od, k ∈ I.map (·.1) := by
    intro l
    induction l with
    | nil => intro od _ h k hk; exact h k hk
    | cons x l ih =>
      intro od h1 h2
      refine ih _ (fun k hk => h1 k (.tail _ hk)) fun k hk => ?_
      rcases insOrd_mem hk with h | h
      · exact h2 k h
      · rw [h]; exact h1 x (List.mem_cons_self ..)
  exact this _ [] (fun k hk => (isort_perm _).mem_iff.mp hk) (by simp) k h
theorem slotOrder_len (I : Infos) : (slotOrder I).length ≤ I.length := by
  have : ∀ (l od : List Int), (l.foldl (insOrd I) od).length ≤ od.length + l.length := by
    intro l
    induction l with
    | nil => intro od; simp
    | cons x l ih =>
      intro od
      have h1 := ih (insOrd I od x)
      have h2 := insOrd_len I od x
      simp only [List.foldl_cons, List.length_cons]; (first | lia | omega)
  have := this (isort (I.map (·.1))) []
  rw [isort_length] at this
  simpa [slotOrder] using this
theorem tw_lt {p : Int → Bool} : ∀ {l : List Int} {a : Nat}, a < (l.takeWhile p).length → ∃ k, l[a]? = some k ∧ p k = true
  | [], a, h => by simp at h
  | x :: l, a, h => by
    rw [List.takeWhile_cons] at h
    cases hp : p x
    · simp [hp] at h
    · cases a with
      | zero => exact ⟨x, rfl, hp⟩
      | succ a => simp only [hp, if_true, List.length_cons] at h; exact tw_lt (l := l) (a := a) (by (first | lia | omega))
theorem tw_eq {p : Int → Bool} : ∀ {l : List Int} {k : Int}, l[(l.takeWhile p).length]? = some k → p k = false
  | [], k, h => by simp at h
  | x :: l, k, h => by
    rw [List.takeWhile_cons] at h
    cases hp : p x
    · simp [hp] at h; subst h; exact hp
    · simp only [hp, if_true, List.length_cons, List.getElem?_cons_succ] at h; exact tw_eq h
theorem tw_le {p : Int → Bool} (l : List Int) : (l.takeWhile p).length ≤ l.length := (List.takeWhile_sublist p).length_le
theorem classify_spec {kr : Addr} {as : List Tm} {gs : List Gl} (hk : KerAt S kr as gs) (wf : WfK as gs) :
    CallC D (n + 5) (.ref 255) [.ref kr] S fun v S' => ∃ pl di lc ll K, v = .ref pl ∧ Le S S' ∧ PlanAt S' pl di lc ll K (chunkNums 0 gs) (clsLive as gs) (clsNeeds gs) ((clsOrder as gs).length : Int) ∧ kV K = clsInfos as gs ∧
      InfOk (fun a => S a = none) S' di K ∧ S pl = none ∧ S lc = none ∧ S ll = none ∧ lc ≠ ll := by
  obtain ⟨pa, lg, rs, hkr, hpa, hlg, hrs⟩ := hk
  have hll : (rs.map Value.ref).length = gs.length := by rw [List.length_map, hrs.length]
  have hg4 := wf.gs4
  refine CallC_fn (fn_classify _) loc_classify rfl fun L env fe T hT => ?_
  change EX _ _ _ (execs (_ :: _ :: _ :: _) _) _ _ _
  simp only [locs]
  repeat tb_start
  refine CallW_do (chunk_numbers_spec hlg hrs hg4) fun v S1 z => ?_
  obtain ⟨lc, e1, e2, e3⟩ := z
  subst e1 e3
  repeat tb_start
  refine CallW_do Survey_spec fun v S1 z => ?_
  obtain ⟨sv, di, e4, e5, e6, e7, e8⟩ := z
  subst e4 e8
  have hSlc : S lc = none := e2
  have hlesv : Le S (((S.set lc (.list (iL (chunkNums 0 gs)))).set di (.dict [] 0)).set sv (.inst 230 [(Str.ofString "infos", .ref di)])) := by
    refine (Le.new e2).trans ((Le.new e6).trans (Le.new ?_))
    rw [PH.set_ne e7]; exact e5
  have hsvS : S sv = none := (Le.new e2).none e5
  have hdiS : S di = none := (Le.new e2).none e6
  have hlcsv : lc ≠ sv := by rintro rfl; rw [PH.set_same] at e5; cases e5
  have hlcdi : lc ≠ di := by rintro rfl; rw [PH.set_same] at e6; cases e6
  have hsv1 : (((S.set lc (.list (iL (chunkNums 0 gs)))).set di (.dict [] 0)).set sv (.inst 230 [(Str.ofString "infos", .ref di)])) sv = some (.inst 230 [(Str.ofString "infos", .ref di)]) := PH.set_same ..
  have hdi1 : (((S.set lc (.list (iL (chunkNums 0 gs)))).set di (.dict [] 0)).set sv (.inst 230 [(Str.ofString "infos", .ref di)])) di = some (.dict [] 0) := by rw [PH.set_ne e7.symm]; exact PH.set_same ..
  have hlc1 : (((S.set lc (.list (iL (chunkNums 0 gs)))).set di (.dict [] 0)).set sv (.inst 230 [(Str.ofString "infos", .ref di)])) lc = some (.list (iL (chunkNums 0 gs))) := by rw [PH.set_ne hlcsv, PH.set_ne hlcdi]; exact PH.set_same ..
  generalize ((S.set lc (.list (iL (chunkNums 0 gs)))).set di (.dict [] 0)).set sv (.inst 230 [(Str.ofString "infos", .ref di)]) = S1 at *
  -- what the survey owns
  have hN1 : ∀ a, S1 a = none → S a = none ∧ a ≠ sv ∧ a ≠ lc := fun a h => ⟨hlesv.none h, (by rintro rfl; rw [hsv1] at h; cases h), (by rintro rfl; rw [hlc1] at h; cases h)⟩
  have hI1 : InfOk (fun a => S a = none ∧ a ≠ sv ∧ a ≠ lc) S1 di [] := ⟨⟨0, hdi1⟩, by simp, by simp, ⟨hdiS, e7.symm, hlcdi.symm⟩, by simp, .nil, .nil⟩
  have hkr1 := hlesv _ _ hkr
  repeat tb_start
  refine Met_inst hsv1 (cok_230 _) (fm_Survey_terms _) (ff_Survey_terms _) (by with_unfolding_all rfl) ?_
  repeat tb_start
  refine CallW_do (terms_spec hsv1 hI1 (fun q => q.2.1 rfl) hN1 (hpa.mono hlesv.tups) wf.as3 wf.aok (by decide)) fun v S2 z => ?_
  obtain ⟨e9, K1, hK1, hkv1, hE1⟩ := z
  have hlg1 := hlesv _ _ hlg
  have hx0 : ∀ a x, S a = some x → ¬ (S a = none ∧ a ≠ sv ∧ a ≠ lc) := fun a x h q => by rw [q.1] at h; cases h
  have hz1 : (rs.map Value.ref).length < 2 ^ 60 := by (first | lia | omega)
  have hlg2 := hE1.keep _ _ (hx0 _ _ hlg) hlg1
  repeat tb_start
  refine forK_range gs.length (fun i S' m' => ∃ K, InfOk (fun a => S a = none ∧ a ≠ sv ∧ a ≠ lc) S' di K ∧ kV K = (rowMts (Str.ofString "head") (-1) 0 as ++ goalMts 0 0 (gs.take i)).foldl oneMeet [] ∧ Ext (fun a => S a = none ∧ a ≠ sv ∧ a ≠ lc) S1 S' ∧
    m' (Str.ofString "goals") = some (.ref lg) ∧ m' (Str.ofString "chunks") = some (.ref lc) ∧ m' (Str.ofString "survey") = some (.ref sv) ∧
    m' (Str.ofString "needs_env") = some (.bool ((List.range i).any fun i => ((gs[i]?).map Gl.isCall).getD false && decide ((i : Int) + 1 < (gs.length : Int))))) (by rw [hll]) (by (first | lia | omega)) ?_ ?_ ?_
  · exact ⟨K1, hK1, by rw [hkv1]; simp [goalMts, kV], hE1, by tb_rel, by tb_rel, by tb_rel, Loc.set_same _ _ _⟩
  · rintro i S' m' Ui hUi hi ⟨K, hK, hkv, hE, n1, n2, n3, n4⟩
    obtain ⟨g, hg⟩ : ∃ c, gs[i]? = some c := ⟨_, List.getElem?_eq_getElem (by (first | lia | omega))⟩
    obtain ⟨r, hr, hga⟩ := hrs.get hg
    have hgok := wf.gok g (List.mem_of_getElem? hg)
    have hlg' := hE.keep _ _ (hx0 _ _ hlg) hlg1
    have hlc' := hE.keep _ _ (fun q => q.2.2 rfl) hlc1
    have hsv' := hE.keep _ _ (fun q => q.2.1 rfl) hsv1
    have hga' := (hga.mono hlesv.tups).mono hE.tups
    have hN' : ∀ a, S' a = none → (S a = none ∧ a ≠ sv ∧ a ≠ lc) := fun a h => hN1 a (hE.dom a h)
    obtain ⟨c, hc⟩ : ∃ c : Int, c = 0 + (((gs.take i).filter Gl.isCall).length : Int) := ⟨_, rfl⟩
    have hci : (iL (chunkNums 0 gs))[i]? = some (.int c 0) := by rw [iL, List.getElem?_map, chunk_get gs 0 i hi, hc]; rfl
    have htk : (gs.take i).length = i := by rw [List.length_take]; (first | lia | omega)
    have hstep : (rowMts (Str.ofString "head") (-1) 0 as ++ goalMts 0 0 (gs.take (i + 1))).foldl oneMeet [] = (gMts c i g).foldl oneMeet (kV K) := by
      rw [hkv, take_succ_get hg, goalMts_snoc, ← List.append_assoc]
      conv => lhs; rw [List.foldl_append]
      rw [hc, htk]; simp
    repeat tb_start
    refine Sub_list_nat hlg' (by (first | lia | omega)) (by rw [List.getElem?_map, hr]; rfl) ?_ (by intro _; with_unfolding_all rfl)
    repeat tb_start
    refine CallW_do (goal_special_spec hga') fun v S'' z => ?_
    obtain ⟨e1, e2⟩ := z
    subst e1
    rw [e2]
    repeat tb_start
    refine join_if (fun S2 m2 => ∃ K2, InfOk (fun a => S a = none ∧ a ≠ sv ∧ a ≠ lc) S2 di K2 ∧ kV K2 = (if 0 ≤ g.special then [(⟨g.special, Str.ofString "special", i, c, 1⟩ : Ev)] else []).foldl oneMeet (kV K) ∧ Ext (fun a => S a = none ∧ a ≠ sv ∧ a ≠ lc) S1 S2 ∧
      m2 (Str.ofString "goals") = some (.ref lg) ∧ m2 (Str.ofString "chunks") = some (.ref lc) ∧ m2 (Str.ofString "survey") = some (.ref sv) ∧ m2 (Str.ofString "at") = some (.int (i : Int) 0) ∧ m2 (Str.ofString "goal") = some (.ref r) ∧
      m2 (Str.ofString "needs_env") = some (.bool ((List.range i).any fun i => ((gs[i]?).map Gl.isCall).getD false && decide ((i : Int) + 1 < (gs.length : Int))))) ?_ ?_ ?_
    · intro V hV hsp
      have hsp : 0 ≤ g.special := by simpa using hsp
      have hsp6 : g.special = 6 := by cases g <;> simp_all [Gl.special]
      repeat tb_start
      refine Met_inst hsv' (cok_230 _) (fm_Survey_meet _) (ff_Survey_meet _) (by with_unfolding_all rfl) ?_
      repeat tb_start
      refine Sub_list_nat hlc' (by (first | lia | omega)) hci ?_ (by intro _; with_unfolding_all rfl)
      repeat tb_start
      refine CallW_do (CallC_le (meet_spec (n := n) hsv' hK (fun q => q.2.1 rfl) hN' (by (first | lia | omega))) (by (first | lia | omega))) fun v S2 z => ?_
      obtain ⟨e7, K2, hK2, hkv2, hE2⟩ := z
      repeat tb_start
      exact hV _ _ ⟨K2, hK2, by rw [hkv2, if_pos hsp]; rfl, hE.trans hE2, by tb_rel, by tb_rel, by tb_rel, by tb_rel, by tb_rel, by tb_rel⟩
    · intro V hV hsp
      have hsp : ¬ 0 ≤ g.special := by simpa using hsp
      repeat tb_start
      exact hV _ _ ⟨K, hK, by rw [if_neg hsp]; rfl, hE, by tb_rel, by tb_rel, by tb_rel, by tb_rel, by tb_rel, by tb_rel⟩
    rintro S3 m3 ⟨K3, hK3, hkv3, hE3, q1, q2, q3, q4, q5, q6⟩
    have hsv3 := hE3.keep _ _ (fun q => q.2.1 rfl) hsv1
    have hga3 := (hga.mono hlesv.tups).mono hE3.tups
    repeat tb_start
    refine Met_inst hsv3 (cok_230 _) (fm_Survey_terms _) (ff_Survey_terms _) (by with_unfolding_all rfl) ?_
    repeat tb_start
    refine CallW_do (goal_terms_spec hga3) fun v S4 z => ?_
    obtain ⟨p, e1, hle4, hts⟩ := z
    subst e1
    have hE4 := hE3.trans hle4.ext
    have hlc4 := hE4.keep _ _ (fun q => q.2.2 rfl) hlc1
    have hsv4 := hE4.keep _ _ (fun q => q.2.1 rfl) hsv1
    repeat tb_start
    refine Sub_list_nat hlc4 (by (first | lia | omega)) hci ?_ (by intro _; with_unfolding_all rfl)
    repeat tb_start
    refine CallW_do (terms_spec hsv4 (hK3.mono hle4) (fun q => q.2.1 rfl) (fun a h => hN1 a (hE4.dom a h)) hts hgok.1 hgok.2 (by decide)) fun v S5 z => ?_
    obtain ⟨e9, K5, hK5, hkv5, hE5⟩ := z
    have hE6 := hE4.trans hE5
    have hga5 := (hga.mono hlesv.tups).mono hE6.tups
    have hlg5 := hE6.keep _ _ (hx0 _ _ hlg) hlg1
    repeat tb_start
    refine gl_head hga5 (fun w hw => ?_) (by intro _; with_unfolding_all rfl)
    repeat tb_start
    rw [hw]
    refine at_and1 (((gs[i]?).map Gl.isCall).getD false && decide ((i : Int) + 1 < (gs.length : Int))) ?_ ?_ ?_
    · intro hcc
      repeat tb_start
      exact ⟨by simp [hg, hcc, hrs.length], rfl, rfl⟩
    · intro hcc; simp [hg, hcc]
    have hfin : kV K5 = (rowMts (Str.ofString "head") (-1) 0 as ++ goalMts 0 0 (gs.take (i + 1))).foldl oneMeet [] := by
      rw [hstep, hkv5, hkv3]; unfold gMts; rw [List.foldl_append]
    cases hb : ((gs[i]?).map Gl.isCall).getD false && decide ((i : Int) + 1 < (gs.length : Int))
    · repeat tb_start
      exact hUi _ _ ⟨K5, hK5, hfin, hE6, by tb_rel, by tb_rel, by tb_rel, by rw [range_any_succ, hb, Bool.or_false]; tb_rel⟩
    · repeat tb_start
      exact hUi _ _ ⟨K5, hK5, hfin, hE6, by tb_rel, by tb_rel, by tb_rel, by rw [range_any_succ, hb, Bool.or_true]; tb_rel⟩
  · rintro S' m' ⟨K, hK, hkv, hE, n1, n2, n3, n4⟩
    rw [List.take_of_length_le (Nat.le_refl _)] at hkv
    have hsv' := hE.keep _ _ (fun q => q.2.1 rfl) hsv1
    have hkv : kV K = infos0 as gs := hkv
    have n4 : m' (Str.ofString "needs_env") = some (.bool (clsNeeds gs)) := n4
    obtain ⟨ep, hdi⟩ := hK.dict
    have hKs := hK.small
    repeat tb_start
    refine forK_dict (fun j S2 m2 => InfOk (fun a => S a = none ∧ a ≠ sv ∧ a ≠ lc) S2 di ((K.take j).map kindE ++ K.drop j) ∧ S2 di = some (.dict (vDict K) ep) ∧ Ext (fun a => S a = none ∧ a ≠ sv ∧ a ≠ lc) S1 S2 ∧
      m2 (Str.ofString "goals") = some (.ref lg) ∧ m2 (Str.ofString "chunks") = some (.ref lc) ∧ m2 (Str.ofString "infos") = some (.ref di) ∧ m2 (Str.ofString "needs_env") = some (.bool (clsNeeds gs))) hdi ?_ ?_ ?_ ?_
    · exact ⟨by simpa using hK, hdi, hE, by tb_rel, by tb_rel, by tb_rel, by tb_rel⟩
    · rintro j S2 m2 ⟨_, h, _⟩; exact h
    · rintro j S2 m2 Uj hUj hj ⟨hK2, hdi2, hE2, q1, q2, q3, q4⟩
      have hj' : j < K.length := by simpa [vDict] using hj
      obtain ⟨e, he⟩ : ∃ c, K[j]? = some c := ⟨_, List.getElem?_eq_getElem hj'⟩
      have hem := List.mem_of_getElem? he
      have hdrop : K.drop j = e :: K.drop (j + 1) := by
        rw [List.drop_eq_getElem_cons hj']; congr 1; exact getElem_of he
      have hek : (vDict K)[j] = (e.1, .ref e.2.1) := getElem_of (by rw [vDict, List.getElem?_map, he]; rfl)
      rw [hek]
      have hva : valueAt (vDict K) e.1 = some (.ref e.2.1) := by rw [valueAt_vDict, find_of_mem hK.ks hem]; rfl
      have hem2 : e ∈ (K.take j).map kindE ++ K.drop j := by rw [hdrop]; simp
      have hv2 := hK2.vis e hem2
      have hup := hK2.upd (f := fun v => { v with kind := kindOf e.2.2 }) hem2
      have hsame : kUpd ((K.take j).map kindE ++ K.drop j) e.1 (fun v => { v with kind := kindOf e.2.2 }) = (K.take (j + 1)).map kindE ++ K.drop (j + 1) := by
        have hks2 := hK2.ks
        rw [hdrop] at hks2 ⊢
        rw [kUpd_one hks2, take_succ_get he, List.map_append]; simp [kindE]
      rw [hsame] at hup
      have hEup := hE2.own (x := .inst 132 ({ e.2.2 with kind := kindOf e.2.2 } : Vi).fs) hv2 (hK2.new e hem2) (by simp)
      have hdi3 : (S2.set e.2.1 (.inst 132 ({ e.2.2 with kind := kindOf e.2.2 } : Vi).fs)) di = some (.dict (vDict K) ep) := by rw [PH.set_ne (by rintro rfl; rw [hdi2] at hv2; cases hv2)]; exact hdi2
      repeat tb_start
      refine Sub_dict hdi2 hva ?_ (by intro _; with_unfolding_all rfl)
      repeat tb_start
      refine CallW_do (kind_of_spec hv2) fun v S' z => ?_
      obtain ⟨e1, e2⟩ := z
      subst e1
      rw [e2]
      repeat tb_start
      refine Sub_dict hdi2 hva ?_ (by intro _; with_unfolding_all rfl)
      repeat tb_start
      exact hUj _ _ ⟨hup, hdi3, hEup, by tb_rel, by tb_rel, by tb_rel, by tb_rel⟩
    · rintro S2 m2 ⟨hK2, hdi2, hE2, q1, q2, q3, q4⟩
      rw [List.take_of_length_le (by simp [vDict]), List.drop_eq_nil_of_le (by simp [vDict]), List.append_nil] at hK2
      have hkv2 : kV (K.map kindE) = withKinds (infos0 as gs) := by rw [← hkv]; unfold kV withKinds; rw [List.map_map, List.map_map]; rfl
      obtain ⟨ep2, hdk⟩ := hK2.dict
      repeat tb_start
      refine CallW_do (slot_order_spec hdk hK2.vis hK2.ks hK2.small) fun v S3 z => ?_
      obtain ⟨od, e1, e2, e3⟩ := z
      subst e1 e3
      rw [hkv2]
      have hodl := slotOrder_len (withKinds (infos0 as gs))
      have hI1l : (withKinds (infos0 as gs)).length ≤ 7 := by rw [← hkv2]; simp [kV]; (first | lia | omega)
      have hodz : (iL (slotOrder (withKinds (infos0 as gs)))).length < 2 ^ 60 := by simp; (first | lia | omega)
      have hK3 := hK2.avoid (x := .list (iL (slotOrder (withKinds (infos0 as gs))))) e2
      have hE3 := hE2.new (x := .list (iL (slotOrder (withKinds (infos0 as gs))))) e2
      have hod3 : (S2.set od (.list (iL (slotOrder (withKinds (infos0 as gs)))))) od = some (.list (iL (slotOrder (withKinds (infos0 as gs))))) := PH.set_same ..
      have hSod : S od = none := (hN1 od (hE2.dom od e2)).1
      generalize S2.set od (.list (iL (slotOrder (withKinds (infos0 as gs))))) = S3 at *
      repeat tb_start
      refine forK_range (slotOrder (withKinds (infos0 as gs))).length (fun i S' m' => ∃ K', InfOk (fun a => (S a = none ∧ a ≠ sv ∧ a ≠ lc) ∧ a ≠ od) S' di K' ∧ kV K' = ((slotOrder (withKinds (infos0 as gs))).zipIdx.take i).foldl setSlot (withKinds (infos0 as gs)) ∧
        K'.map (·.1) = (withKinds (infos0 as gs)).map (·.1) ∧ Ext (fun a => (S a = none ∧ a ≠ sv ∧ a ≠ lc) ∧ a ≠ od) S3 S' ∧
        m' (Str.ofString "goals") = some (.ref lg) ∧ m' (Str.ofString "chunks") = some (.ref lc) ∧ m' (Str.ofString "infos") = some (.ref di) ∧ m' (Str.ofString "needs_env") = some (.bool (clsNeeds gs)) ∧ m' (Str.ofString "order") = some (.ref od)) (by simp) (by (first | lia | omega)) ?_ ?_ ?_
      · exact ⟨K.map kindE, hK3, by rw [hkv2]; rfl, by rw [← hkv2]; simp [kV], Ext.refl _ _, by tb_rel, by tb_rel, by tb_rel, by tb_rel, by tb_rel⟩
      · rintro i S' m' Ui hUi hi ⟨K', hK', hkv', hkeys, hE', q1, q2, q3, q4, q5⟩
        obtain ⟨k, hk⟩ : ∃ c, (slotOrder (withKinds (infos0 as gs)))[i]? = some c := ⟨_, List.getElem?_eq_getElem hi⟩
        have hkm := mem_slotOrder (List.mem_of_getElem? hk)
        rw [← hkeys] at hkm
        obtain ⟨e, he, hek⟩ := List.mem_map.mp hkm
        subst hek
        have hod' := hE'.keep _ _ (fun q => q.2 rfl) hod3
        obtain ⟨ep', hdi'⟩ := hK'.dict
        have hva : valueAt (vDict K') e.1 = some (.ref e.2.1) := by rw [valueAt_vDict, find_of_mem hK'.ks he]; rfl
        have hv := hK'.vis e he
        have hup := hK'.upd (f := fun v => { v with slot := (i : Int) + 1, uns := v.first == Str.ofString "goal_arg" }) he
        have hEup := hE'.own (x := .inst 132 ({ e.2.2 with slot := (i : Int) + 1, uns := e.2.2.first == Str.ofString "goal_arg" } : Vi).fs) hv (hK'.new e he) (by simp)
        have hz : (slotOrder (withKinds (infos0 as gs))).zipIdx[i]? = some (e.1, i) := by rw [List.getElem?_zipIdx, hk]; simp
        repeat tb_start
        refine Sub_list_nat hod' (by (first | lia | omega)) (by rw [iL, List.getElem?_map, hk]; rfl) ?_ (by intro _; with_unfolding_all rfl)
        refine Sub_dict hdi' hva ?_ (by intro _; with_unfolding_all rfl)
        repeat tb_start
        simp only [set_set]
        refine hUi _ _ ⟨_, hup, ?_, by rw [kUpd_keys]; exact hkeys, hEup, by tb_rel, by tb_rel, by tb_rel, by tb_rel, by tb_rel⟩
        rw [take_succ_get hz, List.foldl_append, ← hkv', kV_upd]; rfl
      · rintro S' m' ⟨K', hK', hkv', hkeys, hE', q1, q2, q3, q4, q5⟩
        have hcl : kV K' = clsInfos as gs := by
          rw [hkv', List.take_of_length_le (by simp)]; rfl
        have hod' : S' od = some (.list (iL (clsOrder as gs))) := hE'.keep _ _ (fun q => q.2 rfl) hod3
        have hord : (clsOrder as gs).length ≤ 7 := Nat.le_trans hodl hI1l
        obtain ⟨ep', hdi'⟩ := hK'.dict
        have hx2 : ∀ a x, S a = some x → ¬ ((S a = none ∧ a ≠ sv ∧ a ≠ lc) ∧ a ≠ od) := fun a x h q => hx0 a x h q.1
        have hlg' := hE'.keep _ _ (hx2 _ _ hlg) (hE3.keep _ _ (hx0 _ _ hlg) hlg1)
        have hlc' := hE'.keep _ _ (fun q => q.1.2.2 rfl) (hE3.keep _ _ (fun q => q.2.2 rfl) hlc1)
        have hle' : Le S S' := fun a x h => hE'.keep _ _ (hx2 _ _ h) (hE3.keep _ _ (hx0 _ _ h) (hlesv _ _ h))
        repeat tb_start
        refine ⟨by simp, fun ll hll2 => ?_⟩
        have hSll : S ll = none := hle'.none hll2
        have hlcll : lc ≠ ll := by rintro rfl; rw [hlc'] at hll2; cases hll2
        have hkl : ∀ x, Le S' (S'.set ll x) := fun x => Le.new hll2
        repeat tb_start
        refine forK_range gs.length (fun i S2 m2 => S2 = S'.set ll (.list (iL ((List.range i).map (liveAt (clsInfos as gs) (clsOrder as gs))))) ∧
          m2 (Str.ofString "goals") = some (.ref lg) ∧ m2 (Str.ofString "chunks") = some (.ref lc) ∧ m2 (Str.ofString "infos") = some (.ref di) ∧ m2 (Str.ofString "needs_env") = some (.bool (clsNeeds gs)) ∧ m2 (Str.ofString "order") = some (.ref od) ∧ m2 (Str.ofString "live_after") = some (.ref ll)) (by rw [hll]) (by (first | lia | omega)) ?_ ?_ ?_
        · exact ⟨rfl, by tb_rel, by tb_rel, by tb_rel, by tb_rel, by tb_rel, by tb_rel⟩
        · rintro i S2 m2 Ui hUi hi ⟨rfl, r1, r2, r3, r4, r5, r6⟩
          have hod5 := hkl (.list (iL ((List.range i).map (liveAt (clsInfos as gs) (clsOrder as gs))))) _ _ hod'
          have hdi5 := hkl (.list (iL ((List.range i).map (liveAt (clsInfos as gs) (clsOrder as gs))))) _ _ hdi'
          have hll5 : (S'.set ll (.list (iL ((List.range i).map (liveAt (clsInfos as gs) (clsOrder as gs)))))) ll = some _ := PH.set_same ..
          have hvis5 : ∀ e ∈ K', (S'.set ll (.list (iL ((List.range i).map (liveAt (clsInfos as gs) (clsOrder as gs)))))) e.2.1 = some (.inst 132 e.2.2.fs) := fun e he => hkl _ _ _ (hK'.vis e he)
          have hnext : iL ((List.range i).map (liveAt (clsInfos as gs) (clsOrder as gs))) ++ [.int (liveAt (clsInfos as gs) (clsOrder as gs) i) 0] = iL ((List.range (i + 1)).map (liveAt (clsInfos as gs) (clsOrder as gs))) := by
            rw [List.range_succ]; simp [iL]
          have hz5 : (iL (clsOrder as gs)).length < 2 ^ 60 := by simp; (first | lia | omega)
          have hz6 : (iL ((List.range i).map (liveAt (clsInfos as gs) (clsOrder as gs)))).length ≤ 100 := by simp; (first | lia | omega)
          have htl := tw_le (p := fun k => decide ((i : Int) < lastOf (clsInfos as gs) k)) (clsOrder as gs)
          repeat tb_start
          refine EX_while' (fun k S3 m3 => S3 = S'.set ll (.list (iL ((List.range i).map (liveAt (clsInfos as gs) (clsOrder as gs))))) ∧ ∃ a, k = (clsOrder as gs).length - a ∧ a ≤ ((clsOrder as gs).takeWhile fun k => decide ((i : Int) < lastOf (clsInfos as gs) k)).length ∧
            m3 (Str.ofString "goals") = some (.ref lg) ∧ m3 (Str.ofString "chunks") = some (.ref lc) ∧ m3 (Str.ofString "infos") = some (.ref di) ∧ m3 (Str.ofString "needs_env") = some (.bool (clsNeeds gs)) ∧ m3 (Str.ofString "order") = some (.ref od) ∧ m3 (Str.ofString "live_after") = some (.ref ll) ∧
            m3 (Str.ofString "at") = some (.int (i : Int) 0) ∧ m3 (Str.ofString "live") = some (.int (a : Int) 0)) (clsOrder as gs).length ?_ ?_
          · exact ⟨rfl, 0, by (first | lia | omega), by (first | lia | omega), by tb_rel, by tb_rel, by tb_rel, by tb_rel, by tb_rel, by tb_rel, by tb_rel, Loc.set_same _ _ _⟩
          · rintro k S3 m3 U hU ⟨rfl, a, rfl, ha, w1, w2, w3, w4, w5, w6, w7, w8⟩
            have ent : ∀ k, (clsOrder as gs)[a]? = some k → ∃ e ∈ K', e.1 = k ∧ valueAt (vDict K') k = some (.ref e.2.1) ∧ lastOf (clsInfos as gs) k = e.2.2.last := by
              intro k hk
              have hkm := mem_slotOrder (I := withKinds (infos0 as gs)) (List.mem_of_getElem? hk)
              rw [← hkeys] at hkm
              obtain ⟨e, he, hek⟩ := List.mem_map.mp hkm
              refine ⟨e, he, hek, by rw [← hek, valueAt_vDict, find_of_mem hK'.ks he]; rfl, ?_⟩
              rw [← hcl, ← hek]; unfold lastOf; rw [getV_kV, find_of_mem hK'.ks he]; rfl
            repeat tb_start
            try rw [iL_length]
            cases hcmp : decide ((a : Int) < ((clsOrder as gs).length : Int))
            · have hal : (clsOrder as gs).length ≤ a := by have := of_decide_eq_false hcmp; (first | lia | omega)
              have hcnt : ((clsOrder as gs).takeWhile fun k => decide ((i : Int) < lastOf (clsInfos as gs) k)).length = a := by (first | lia | omega)
              have hlv : liveAt (clsInfos as gs) (clsOrder as gs) i = (a : Int) := by unfold liveAt; rw [hcnt]
              rw [hlv] at hnext
              repeat tb_start
              rw [set_set]
              exact hUi _ _ ⟨by rw [hnext], by tb_rel, by tb_rel, by tb_rel, by tb_rel, by tb_rel, by tb_rel⟩
            · have hal : a < (clsOrder as gs).length := by have := of_decide_eq_true hcmp; (first | lia | omega)
              obtain ⟨k, hk⟩ : ∃ c, (clsOrder as gs)[a]? = some c := ⟨_, List.getElem?_eq_getElem hal⟩
              obtain ⟨e, he, hek, hva, hla⟩ := ent k hk
              have hv := hvis5 e he
              repeat tb_start
              refine Sub_list_nat hod5 (by (first | lia | omega)) (v := .int k 0) (by rw [iL, List.getElem?_map, hk]; rfl) ?_ (by intro _; with_unfolding_all rfl)
              refine Sub_dict hdi5 hva ?_ (by intro _; with_unfolding_all rfl)
              repeat tb_start
              by_cases hlt : a < ((clsOrder as gs).takeWhile fun k => decide ((i : Int) < lastOf (clsInfos as gs) k)).length
              · obtain ⟨k', hk', hp⟩ := tw_lt hlt
                rw [hk] at hk'; cases hk'
                rw [hla] at hp
                rw [hp]
                repeat tb_start
                exact hU ((clsOrder as gs).length - (a + 1)) _ _ (by (first | lia | omega)) ⟨rfl, a + 1, rfl, by (first | lia | omega), by tb_rel, by tb_rel, by tb_rel, by tb_rel, by tb_rel, by tb_rel, by tb_rel, (Loc.set_same _ _ _).trans (by simp)⟩
              · have hcnt : ((clsOrder as gs).takeWhile fun k => decide ((i : Int) < lastOf (clsInfos as gs) k)).length = a := by (first | lia | omega)
                have hp := tw_eq (p := fun k => decide ((i : Int) < lastOf (clsInfos as gs) k)) (l := clsOrder as gs) (k := k) (by rw [hcnt]; exact hk)
                have hlv : liveAt (clsInfos as gs) (clsOrder as gs) i = (a : Int) := by unfold liveAt; rw [hcnt]
                rw [hlv] at hnext
                simp only [hla] at hp
                rw [hp]
                repeat tb_start
                rw [set_set]
                exact hUi _ _ ⟨by rw [hnext], by tb_rel, by tb_rel, by tb_rel, by tb_rel, by tb_rel, by tb_rel⟩
        · rintro S2 m2 ⟨rfl, r1, r2, r3, r4, r5, r6⟩
          have hlive : (List.range gs.length).map (liveAt (clsInfos as gs) (clsOrder as gs)) = clsLive as gs := rfl
          rw [hlive]
          have hle6 := hkl (.list (iL (clsLive as gs)))
          have hod6 := hle6 _ _ hod'
          have hll6 : (S'.set ll (.list (iL (clsLive as gs)))) ll = some (.list (iL (clsLive as gs))) := PH.set_same ..
          have hK6 := hK'.mono hle6
          have hlc6 := hle6 _ _ hlc'
          have hle7 := hle'.trans hle6
          generalize S'.set ll (.list (iL (clsLive as gs))) = S6 at *
          have hz5 : (iL (clsOrder as gs)).length < 2 ^ 60 := by simp; (first | lia | omega)
          repeat tb_start
          rw [iL_length]
          refine CallW_do (CallC_le (ClausePlan_spec (n := n)) (by (first | lia | omega))) fun v S7 z => ?_
          obtain ⟨pl, e1, e2, e3⟩ := z
          subst e1 e3
          have hle8 : Le S6 (S6.set pl (.inst 188 (pfs di lc (clsNeeds gs) ((clsOrder as gs).length : Int) ll))) := Le.new e2
          have hK8 := hK6.mono hle8
          refine hT _ _ ⟨pl, di, lc, ll, K', rfl, hle7.trans hle8, ⟨PH.set_same .., hK8.dict, hK8.vis, hle8 _ _ hlc6, hle8 _ _ hll6, hK8.ks, hK8.nd⟩, hcl, hK8.weaken fun a q => q.1.1, hle7.none e2, hSlc, hSll, hlcll⟩
end
section
variable {D : Wd} {n : Nat} {S : PH}
set_option maxHeartbeats 1000000

/-- the coins -/
noncomputable def Cs (S : PH) (c : Addr) : Prop := ∃ cs : List Int, S c = some (.list (iL cs)) ∧ cs.length ≤ 5000
/-- all but the coins stays -/
noncomputable def Lc (c : Addr) (S S' : PH) : Prop := ∀ a x, a ≠ c → S a = some x → S' a = some x
theorem Lc.refl (c : Addr) (S : PH) : Lc c S S := fun _ _ _ h => h
theorem Lc.trans {c : Addr} {S S' S'' : PH} (h : Lc c S S') (h' : Lc c S' S'') : Lc c S S'' := fun a x n e => h' a x n (h a x n e)
theorem Lc.coin {c : Addr} {S : PH} {x : AObj} : Lc c S (S.set c x) := fun a y n e => by rw [PH.set_ne n]; exact e
theorem Lc.new {c a : Addr} {S S' : PH} {x : AObj} (h : Lc c S S') (ha : S' a = none) : Lc c S (S'.set a x) := fun b y n e => PH.keep_new ha (h b y n e)
theorem Lc.tups {c : Addr} {S S' : PH} {l : List Value} (h : Lc c S S') (hc : S c = some (.list l)) : Tups S S' := fun a vs e => h a _ (by rintro rfl; rw [hc] at e; cases e) e
theorem Cs.new {c a : Addr} {S : PH} {x : AObj} (h : Cs S c) (ha : S a = none) : Cs (S.set a x) c := let ⟨cs, h1, h2⟩ := h; ⟨cs, PH.keep_new ha h1, h2⟩

theorem coin_any {c : Addr} {k : Int} (hc : Cs S c) (hk : 0 < k) : CallC D (n + 1) (.ref 269) [.ref c, .int k 0] S fun v S' => ∃ i, v = .int i 0 ∧ 0 ≤ i ∧ i < k ∧ Cs S' c ∧ Lc c S S' := by
  obtain ⟨cs, h1, h2⟩ := hc
  refine CallC_mono (coin_spec h1 h2 hk) fun v S' h => ?_
  rcases h with ⟨e1, e2, e3⟩ | ⟨ds, d, e1, e2, e3⟩
  · subst e3; exact ⟨0, e2, by (first | lia | omega), hk, ⟨cs, h1, h2⟩, Lc.refl _ _⟩
  · subst e3
    exact ⟨d % k, e2, Int.emod_nonneg _ (by (first | lia | omega)), Int.emod_lt_of_pos _ hk, ⟨ds, PH.set_same .., by rw [e1] at h2; simp at h2; (first | lia | omega)⟩, Lc.coin⟩

theorem thing0_spec {c : Addr} (hc : Cs S c) : CallC D (n + 2) (.ref 276) [.ref c, .int 0 0] S fun v S' => ∃ r l, v = .ref r ∧ LfAt S' r l ∧ l.ok ∧ Cs S' c ∧ Lc c S S' := by
  refine CallC_fn (fn_law_thing _) loc_law_thing rfl fun L env fe T hT => ?_
  change EX _ _ _ (execs [_, _, _, _] _) _ _ _
  simp only [locs]
  repeat tb_start
  refine CallW_do (coin_any hc (by decide)) fun v S1 z => ?_
  obtain ⟨i, e1, h0, h4, hc1, hl1⟩ := z
  subst e1
  repeat tb_start
  cases h3 : i == 3
  case true =>
    repeat tb_start
    refine ⟨by simp, fun r hr => ?_⟩
    exact hT _ _ ⟨r, .a, rfl, PH.set_same .., trivial, hc1.new hr, hl1.new hr⟩
  have h3 : i < 3 := by have : ¬ i = 3 := by simpa using h3
                        (first | lia | omega)
  have hd : decide (i < 3) = true := by simpa using h3
  repeat tb_start
  rw [hd]
  repeat tb_start
  refine CallW_do (coin_any hc1 (by decide)) fun v S2 z => ?_
  obtain ⟨j, e2, g0, g6, hc2, hl2⟩ := z
  subst e2
  repeat tb_start
  refine ⟨by simp, fun r hr => ?_⟩
  exact hT _ _ ⟨r, .v j, rfl, PH.set_same .., ⟨g0, by (first | lia | omega)⟩, hc2.new hr, (hl1.trans hl2).new hr⟩

theorem thing1_spec {c : Addr} (hc : Cs S c) : CallC D (n + 3) (.ref 276) [.ref c, .int 1 0] S fun v S' => ∃ r t, v = .ref r ∧ TmAt S' r t ∧ t.ok ∧ Cs S' c ∧ Lc c S S' := by
  refine CallC_fn (fn_law_thing _) loc_law_thing rfl fun L env fe T hT => ?_
  change EX _ _ _ (execs [_, _, _, _] _) _ _ _
  simp only [locs]
  repeat tb_start
  refine CallW_do (coin_any hc (by decide)) fun v S1 z => ?_
  obtain ⟨i, e1, h0, h4, hc1, hl1⟩ := z
  subst e1
  repeat tb_start
  cases h3 : i == 3
  case true =>
    repeat tb_start
    refine ⟨by simp, fun r hr => ?_⟩
    exact hT _ _ ⟨r, .lf .a, rfl, PH.set_same .., trivial, hc1.new hr, hl1.new hr⟩
  repeat tb_start
  cases h5 : decide (i < 3)
  case true =>
    repeat tb_start
    refine CallW_do (coin_any hc1 (by decide)) fun v S2 z => ?_
    obtain ⟨j, e2, g0, g6, hc2, hl2⟩ := z
    subst e2
    repeat tb_start
    refine ⟨by simp, fun r hr => ?_⟩
    exact hT _ _ ⟨r, .lf (.v j), rfl, PH.set_same .., ⟨g0, by (first | lia | omega)⟩, hc2.new hr, (hl1.trans hl2).new hr⟩
  repeat tb_start
  refine CallW_do (thing0_spec hc1) fun v S2 z => ?_
  obtain ⟨a, x, e2, ha, hxo, hc2, hl2⟩ := z
  subst e2
  repeat tb_start
  refine CallW_do (thing0_spec hc2) fun v S3 z => ?_
  obtain ⟨b, y, e3, hb, hyo, hc3, hl3⟩ := z
  subst e3
  repeat tb_start
  refine ⟨by simp, fun p hp => ?_⟩
  repeat tb_start
  refine ⟨by simp, fun r hr => ?_⟩
  obtain ⟨cs2, hcs2, _⟩ := id hc2
  have t3 := hl3.tups hcs2
  have t4 := (Le.new (x := .tup [.ref a, .ref b]) hp).tups
  have t5 := (Le.new (x := .tup [.str (Str.ofString "s") 0, .int 2 0, .ref p]) hr).tups
  exact hT _ _ ⟨r, .s x y, rfl, ⟨p, a, b, PH.set_same .., PH.keep_new hr (PH.set_same ..), ((ha.mono t3).mono t4).mono t5, (hb.mono t4).mono t5⟩, ⟨hxo, hyo⟩, (hc3.new hp).new hr, (((hl1.trans hl2).trans hl3).new hp).new hr⟩
end
section
variable {D : Wd} {n : Nat} {S : PH}
set_option maxHeartbeats 1000000

abbrev cNames (g : Str) (k : NameKind) : List (Str × NameKind) := [(Str.ofString ".0", .local), (Str.ofString "lap", .local), (g, .globalImplicit), (Str.ofString "coins", k)]
abbrev cScope (g : Str) : Scope := { kind := .function, names := cNames g .free, isGenerator := false, isCoroutine := false }
theorem clos_coins {g : Str} {env : Env} {c : Addr} (h : env.cells.lookup (Str.ofString "coins") = some c) : closureFor (cScope g) env = pure [(Str.ofString "coins", c)] := by
  have hc : cellOf env (Str.ofString "coins") = pure c := by unfold cellOf; rw [h]
  unfold closureFor
  simp [cNames, hc]
theorem relabel_coins {L : Addr} {nm : List (Str × NameKind)} {env : Env} {g : Str} (fe : FE L nm env) (hl : nm.lookup (Str.ofString "coins") = some .cell) : (relabel (cScope g) env).names = cNames g .cell := by
  unfold relabel
  simp [cNames, fe.k, fe.kindOf hl]
theorem nk_things : nm_law_things.lookup (Str.ofString "coins") = some .cell := by decide
theorem cells_things (k : Nat) : cellsFrom k nm_law_things [] = [(Str.ofString "coins", k)] := by rfl

theorem things_spec {c : Addr} (hc : Cs S c) : CallC D (n + 5) (.ref 281) [.ref c] S fun v S' => ∃ p ts, v = .ref p ∧ TmsAt S' p ts ∧ ts.length ≤ 3 ∧ (∀ t ∈ ts, t.ok) ∧ Cs S' c ∧ Lc c S S' := by
  refine CallC_cell (cx := Str.ofString "coins") (fn_law_things _) cells_things (.inr ⟨nk_things, rfl⟩) (fun L env ca fe hcl hca T hT => ?_) (fun _ => nk_things)
  rw [if_pos rfl, if_pos rfl]
  change EX _ _ _ (execs [_] _) _ _ _
  have hne : ca ≠ c := by rintro rfl; obtain ⟨cs, h, _⟩ := hc; rw [hca] at h; cases h
  have hcs1 : Cs (S.set ca (.cell (some (.ref c)))) c := hc.new hca
  have hcell1 : (S.set ca (.cell (some (.ref c)))) ca = some (.cell (some (.ref c))) := PH.set_same ..
  have hl1 : Lc c S (S.set ca (.cell (some (.ref c)))) := (Lc.refl c S).new hca
  generalize S.set ca (.cell (some (.ref c))) = S1 at *
  repeat tb_start
  have hrel := relabel_coins (g := Str.ofString "_law_thing") fe nk_things
  refine EV_comp (cl := [(Str.ofString "coins", ca)]) fe (clos_coins hcl) (by decide) rfl (by decide) (by decide) (by show (relabel (cScope _) env).names.lookup _ = _; rw [hrel]; decide) (fun _ => rfl) ?_
  repeat tb_start
  refine CallW_do (coin_any hcs1 (by decide)) fun v S2 z => ?_
  obtain ⟨i, e1, h0, h4, hc2, hl2⟩ := z
  subst e1
  have hcell2 := hl2 _ _ hne hcell1
  repeat tb_start
  refine CallW_range1 fun rg o hrg ho => ?_
  refine PyI_range (N := i.toNat) (PH.set_same ..) ho (by (first | lia | omega)) (by (first | lia | omega)) (by (first | lia | omega)) (by (first | lia | omega)) (by (first | lia | omega)) fun I oI hI hst => ?_
  have hc3 := hc2.new (x := .raw o) hrg
  have hl3 := (hl1.trans hl2).new (x := .raw o) hrg
  have hcell3 := PH.keep_new (y := .raw o) hrg hcell2
  generalize S2.set rg (.raw o) = S3 at *
  refine ⟨fun _ => True, _, fun k => .int (0 + (k : Int)) 0, _, oI, iterRange 0 i.toNat, PH.set_same .., hst, by (first | lia | omega), selfs_range 0 _, fun k vs S' => ∃ rs ts, vs = rs.map .ref ∧ All2 (TmAt S') rs ts ∧ ts.length = k ∧ (∀ t ∈ ts, t.ok) ∧ Cs S' c ∧ Lc c S S' ∧ S' ca = some (.cell (some (.ref c))),
    ?_, fun _ _ _ _ => trivial, ?_, ?_⟩
  · rw [erase_set hI]; exact ⟨[], [], rfl, .nil, rfl, by simp, hc3, hl3, hcell3⟩
  · rintro k vs S' C cenv mC fe' hcl' hk ⟨rs, ts, rfl, h1, h2, h3, h4', h5, h6⟩ hx
    have fe2 : FE C (cNames (Str.ofString "_law_thing") .cell) cenv := by
      have : (relabel (cScope (Str.ofString "_law_thing")) env).names = _ := hrel
      rw [← this]; exact fe'
    have hcl2 : cenv.cells.lookup (Str.ofString "coins") = some ca := by rw [hcl']; simp
    clear fe'
    refine EV_call_fn fe2 (by decide) (gl_law_thing _) (kp_law_thing _) ?_ ⟨_, _, rfl, rfl, rfl⟩
    refine Args_cons ?_ (by with_unfolding_all rfl)
    refine EV_cell fe2 (by decide) hcl2 h6 ?_
    repeat tb_start
    refine CallW_do (thing1_spec (n := n + 1) h4') fun v S4 z => ?_
    obtain ⟨r, t, e2, ht, hto, hc5, hl5⟩ := z
    subst e2
    obtain ⟨cs', hcs', _⟩ := id h4'
    have tt := hl5.tups hcs'
    exact ⟨rs ++ [r], ts ++ [t], by simp [er], (h1.mono fun _ _ x => x.mono tt).append (.cons ht .nil), by simp [h2], fun x hx => by
      rcases List.mem_append.mp hx with hx | hx
      · exact h3 x hx
      · rw [List.mem_singleton.mp hx]; exact hto, hc5, h5.trans hl5, hl5 _ _ hne h6⟩
  rintro vs S' a ha ⟨rs, ts, rfl, h1, h2, h3, h4', h5, h6⟩
  have hrl := h1.length
  repeat tb_start
  refine CallW_tuple_list (PH.set_same ..) (by simp; (first | lia | omega)) fun p hp => ?_
  repeat tb_start
  have t1 := (Le.new (x := .list (rs.map Value.ref)) ha).tups
  have t2 := (Le.new (x := .tup (rs.map Value.ref)) hp).tups
  exact hT _ _ ⟨p, ts, rfl, ⟨rs, PH.set_same .., h1.mono fun _ _ x => (x.mono t1).mono t2⟩, by (first | lia | omega), h3, (h4'.new ha).new hp, (h5.new ha).new hp⟩
end
section
variable {D : Wd} {n : Nat} {S : PH}
set_option maxHeartbeats 1000000

theorem goal_spec {c : Addr} (hc : Cs S c) : CallC D (n + 6) (.ref 288) [.ref c] S fun v S' => ∃ r g, v = .ref r ∧ GlAt S' r g ∧ g.ok ∧ Cs S' c ∧ Lc c S S' := by
  refine CallC_fn (fn_law_goal _) loc_law_goal rfl fun L env fe T hT => ?_
  change EX _ _ _ (execs [_, _, _, _, _] _) _ _ _
  simp only [locs]
  repeat tb_start
  refine CallW_do (coin_any hc (by decide)) fun v S1 z => ?_
  obtain ⟨i, e1, h0, h8, hc1, hl1⟩ := z
  subst e1
  repeat tb_start
  cases h1 : decide (i < 3)
  case true =>
    repeat tb_start
    refine CallW_do (things_spec hc1) fun v S2 z => ?_
    obtain ⟨p, ts, e2, hts, h3, hok, hc2, hl2⟩ := z
    subst e2
    repeat tb_start
    refine ⟨by simp, fun r hr => ?_⟩
    exact hT _ _ ⟨r, .call ts, rfl, ⟨p, PH.set_same .., hts.mono (Le.new hr).tups⟩, ⟨h3, hok⟩, hc2.new hr, (hl1.trans hl2).new hr⟩
  repeat tb_start
  cases h2 : i == 3
  case true =>
    repeat tb_start
    refine CallW_do (things_spec hc1) fun v S2 z => ?_
    obtain ⟨p, ts, e2, hts, h3, hok, hc2, hl2⟩ := z
    subst e2
    repeat tb_start
    refine ⟨by simp, fun r hr => ?_⟩
    exact hT _ _ ⟨r, .bi ts, rfl, ⟨p, PH.set_same .., hts.mono (Le.new hr).tups⟩, ⟨h3, hok⟩, hc2.new hr, (hl1.trans hl2).new hr⟩
  repeat tb_start
  cases h3 : i == 4
  case true =>
    repeat tb_start
    refine CallW_do (CallC_le (thing1_spec (n := n) hc1) (by (first | lia | omega))) fun v S2 z => ?_
    obtain ⟨a, x, e2, ha, hxo, hc2, hl2⟩ := z
    subst e2
    repeat tb_start
    refine CallW_do (CallC_le (thing1_spec (n := n) hc2) (by (first | lia | omega))) fun v S3 z => ?_
    obtain ⟨b, y, e3, hb, hyo, hc3, hl3⟩ := z
    subst e3
    obtain ⟨cs2, hcs2, _⟩ := id hc2
    have t3 := hl3.tups hcs2
    repeat tb_start
    refine ⟨by simp, fun r hr => ?_⟩
    have t4 := (Le.new (x := .tup [.str (Str.ofString "unify") 0, .ref a, .ref b]) hr).tups
    refine hT _ _ ⟨r, .uni x y, rfl, ⟨a, b, PH.set_same .., (ha.mono t3).mono t4, hb.mono t4⟩, ⟨by simp [Gl.terms], fun t ht => ?_⟩, hc3.new hr, ((hl1.trans hl2).trans hl3).new hr⟩
    have : t = x ∨ t = y := by simpa [Gl.terms] using ht
    rcases this with rfl | rfl
    · exact hxo
    · exact hyo
  have hi : i = 5 ∨ i = 6 ∨ i = 7 := by
    have := of_decide_eq_false h1
    have : ¬ i = 3 := by simpa using h2
    have : ¬ i = 4 := by simpa using h3
    (first | lia | omega)
  repeat tb_start
  refine ⟨by simp, fun r1 hr1 => ?_⟩
  repeat tb_start
  refine ⟨by simp, fun r2 hr2 => ?_⟩
  repeat tb_start
  refine ⟨by simp, fun r3 hr3 => ?_⟩
  repeat tb_start
  refine ⟨by simp, fun r4 hr4 => ?_⟩
  repeat tb_start
  have hlc := (((hl1.new (x := .tup [.str (Str.ofString "mark") 0, .int 6 0]) hr1).new (x := .tup [.str (Str.ofString "cutto") 0, .int 6 0]) hr2).new (x := .tup [.str (Str.ofString "fail") 0]) hr3).new (x := .list [.ref r1, .ref r2, .ref r3]) hr4
  have hcc := (((hc1.new (x := .tup [.str (Str.ofString "mark") 0, .int 6 0]) hr1).new (x := .tup [.str (Str.ofString "cutto") 0, .int 6 0]) hr2).new (x := .tup [.str (Str.ofString "fail") 0]) hr3).new (x := .list [.ref r1, .ref r2, .ref r3]) hr4
  rcases hi with rfl | rfl | rfl
  · refine Sub_list (v := .ref r1) (PH.set_same ..) (by decide) (by decide) rfl ?_ (by intro _; with_unfolding_all rfl)
    exact hT _ _ ⟨r1, .mark, rfl, PH.keep_new hr4 (PH.keep_new hr3 (PH.keep_new hr2 (PH.set_same ..))), ⟨by simp [Gl.terms], by simp [Gl.terms]⟩, hcc, hlc⟩
  · refine Sub_list (v := .ref r2) (PH.set_same ..) (by decide) (by decide) rfl ?_ (by intro _; with_unfolding_all rfl)
    exact hT _ _ ⟨r2, .cut, rfl, PH.keep_new hr4 (PH.keep_new hr3 (PH.set_same ..)), ⟨by simp [Gl.terms], by simp [Gl.terms]⟩, hcc, hlc⟩
  · refine Sub_list (v := .ref r3) (PH.set_same ..) (by decide) (by decide) rfl ?_ (by intro _; with_unfolding_all rfl)
    exact hT _ _ ⟨r3, .fail, rfl, PH.keep_new hr4 (PH.set_same ..), ⟨by simp [Gl.terms], by simp [Gl.terms]⟩, hcc, hlc⟩
end
section
variable {D : Wd} {n : Nat} {S : PH}
set_option maxHeartbeats 1000000
variable {R : Flow → PH → Loc → Prop} {I : PH → Loc → Prop} {m : Loc}
/-- a turn with an invariant of its own at a break -/
noncomputable def TurnC (R : Flow → PH → Loc → Prop) (J B : PH → Loc → Prop) (f : Flow) (S : PH) (m : Loc) : Prop := match f with
  | .ret v => R (.ret v) S m
  | .brk => B S m
  | _ => J S m
theorem TurnC_next {J B : PH → Loc → Prop} (h : J S m) : TurnC R J B .next S m := h
theorem TurnC_brk {J B : PH → Loc → Prop} (h : B S m) : TurnC R J B .brk S m := h
theorem forB_list {L : Addr} {env : Env} {target : Expr} {body rest : List Stmt} {l : Addr} {vs : List Value} (J : Nat → PH → Loc → Prop) (B : PH → Loc → Prop) (hl : S l = some (.list vs)) (h0 : J 0 S m) (hdep : ∀ i S m, J i S m → S l = some (.list vs))
    (step : ∀ i S m U, (∀ S m, J (i + 1) S m → U S m) → ∀ V, (∀ S m, B S m → V S m) → ∀ (h : i < vs.length), J i S m → Asn D n L env target vs[i] S m fun S m => EX D n L (execs body env) S m (TurnC R U V)) (hJ : ∀ S m, J vs.length S m → B S m) (done : ∀ S m, B S m → EX D n L (execs rest env) S m R) :
    PyI D n L (.ref l) S m (ForK D n L env target body rest R) :=
  forK_list J hl h0 hdep (fun i S m U hU hi hI v' hv => W_mono (step i S m U hU _ (fun _ _ h => h) hi hI v' hv) fun _ S m h => W_mono h fun f S m h => by
    cases f with
    | next => exact h
    | cont => exact h
    | brk => exact done S m h
    | ret v => exact h) fun S m h => done S m (hJ S m h)
theorem forB_range {L : Addr} {env : Env} {target : Expr} {body rest : List Stmt} {b : Int} (N : Nat) (J : Nat → PH → Loc → Prop) (B : PH → Loc → Prop) (hb : b = (N : Int)) (hN : N ≤ 1000000) (h0 : J 0 S m)
    (step : ∀ i S m U, (∀ S m, J (i + 1) S m → U S m) → ∀ V, (∀ S m, B S m → V S m) → i < N → J i S m → Asn D n L env target (.int (i : Int) 0) S m fun S m => EX D n L (execs body env) S m (TurnC R U V)) (hJ : ∀ S m, J N S m → B S m) (done : ∀ S m, B S m → EX D n L (execs rest env) S m R) :
    CallW D n L (.type "range") [.int b 0] S m (fun x S m => PyI D n L x S m (ForK D n L env target body rest R)) :=
  forK_range N J hb hN h0 (fun i S m U hU hi hI v' hv => W_mono (step i S m U hU _ (fun _ _ h => h) hi hI v' hv) fun _ S m h => W_mono h fun f S m h => by
    cases f with
    | next => exact h
    | cont => exact h
    | brk => exact done S m h
    | ret v => exact h) fun S m h => done S m (hJ S m h)
theorem coins_spec {l : Addr} {vs : List Value} {ns : List Int} (hb : D.h₁.IsList l vs.toArray) (hI : IntsAre vs ns) (hz : vs.length ≤ 10000) :
    CallC D (n + 1) (.ref 262) [.ref l] S fun v S' => ∃ c, v = .ref c ∧ S c = none ∧ Cs S' c ∧ Le S S' := by
  refine CallC_fn (fn_law_coins _) loc_law_coins rfl fun L env fe T hT => ?_
  change EX _ _ _ (execs [_, _, _, _] _) _ _ _
  simp only [locs]
  repeat tb_start
  refine ⟨by simp, fun c hc => ?_⟩
  refine EX_for' ?_ rfl (fun _ => rfl)
  refine EV_slice_base (k := 60) fe (by decide) (by tb_rel) hb hz fun a ha => ?_
  have hSa : S a = none := (Le.new (x := .list []) hc).none ha
  have hac : a ≠ c := by rintro rfl; rw [PH.set_same] at ha; cases ha
  have hints : (vs.take 60).map er = iL (ns.take 60) := by
    rw [List.map_take, iL_of hI, iL, iL, List.map_take]
  rw [hints]
  have hca : ((S.set c (.list [])).set a (.list (iL (ns.take 60)))) c = some (.list []) := PH.keep_new ha (PH.set_same ..)
  have haa : ((S.set c (.list [])).set a (.list (iL (ns.take 60)))) a = some (.list (iL (ns.take 60))) := PH.set_same ..
  have hle : Le S ((S.set c (.list [])).set a (.list (iL (ns.take 60)))) := (Le.new hc).trans (Le.new ha)
  generalize (S.set c (.list [])).set a (.list (iL (ns.take 60))) = S1 at *
  refine forB_list (fun i S' m' => ∃ cs : List Int, S' = S1.set c (.list (iL cs)) ∧ cs.length ≤ 20 * i ∧ m' (Str.ofString "coins") = some (.ref c)) (fun S' m' => ∃ cs : List Int, S' = S1.set c (.list (iL cs)) ∧ cs.length ≤ 20 * 60 ∧ m' (Str.ofString "coins") = some (.ref c)) haa ?_ ?_ ?_ ?_ ?_
  · exact ⟨[], (set_self hca).symm, by simp, by tb_rel⟩
  · rintro i S' m' ⟨cs, rfl, _⟩; rw [PH.set_ne hac]; exact haa
  · rintro i S' m' Ui hUi V hV hi ⟨cs, rfl, hcs, n1⟩
    have hi60 : i < 60 := by simp at hi; (first | lia | omega)
    obtain ⟨x, hx⟩ : ∃ x, (ns.take 60)[i]? = some x := ⟨_, List.getElem?_eq_getElem (by simpa using hi)⟩
    rw [getElem_of (show (iL (ns.take 60))[i]? = some (.int x 0) by rw [iL, List.getElem?_map, hx]; rfl)]
    repeat tb_start
    refine CallW_abs ?_
    repeat tb_start
    refine forB_range 20 (fun j S2 m2 => ∃ cs2 : List Int, S2 = S1.set c (.list (iL cs2)) ∧ cs2.length ≤ 20 * i + j ∧ m2 (Str.ofString "coins") = some (.ref c) ∧ ∃ y, m2 (Str.ofString "left") = some (.int y 0))
      (fun S2 m2 => ∃ cs2 : List Int, S2 = S1.set c (.list (iL cs2)) ∧ cs2.length ≤ 20 * (i + 1) ∧ m2 (Str.ofString "coins") = some (.ref c)) rfl (by (first | lia | omega)) ?_ ?_ ?_ ?_
    · exact ⟨cs, rfl, by (first | lia | omega), by tb_rel, _, Loc.set_same _ _ _⟩
    · rintro j S2 m2 Uj hUj W hW hj ⟨cs2, rfl, hc2, k1, y, k2⟩
      have hcc : (S1.set c (.list (iL cs2))) c = some (.list (iL cs2)) := PH.set_same ..
      have hz2 : (iL cs2).length ≤ 10000 := by simp; (first | lia | omega)
      repeat tb_start
      refine Bin_mod (by decide) ?_
      repeat tb_start
      rw [set_set]
      have hnx : iL cs2 ++ [.int (y % 1000) 0] = iL (cs2 ++ [y % 1000]) := by simp [iL]
      rw [hnx]
      repeat tb_start
      refine Bin_div (by decide) (by decide) ?_
      repeat tb_start
      cases h0 : y / 1000 == 0
      · repeat tb_start
        exact TurnC_next (hUj _ _ ⟨cs2 ++ [y % 1000], rfl, by simp; (first | lia | omega), by tb_rel, _, Loc.set_same _ _ _⟩)
      · repeat tb_start
        exact TurnC_brk (hW _ _ ⟨cs2 ++ [y % 1000], rfl, by simp; (first | lia | omega), by tb_rel⟩)
    · rintro S2 m2 ⟨cs2, rfl, hc2, k1, _⟩
      exact ⟨cs2, rfl, by (first | lia | omega), k1⟩
    · rintro S2 m2 ⟨cs2, rfl, hc2, k1⟩
      have hcc : (S1.set c (.list (iL cs2))) c = some (.list (iL cs2)) := PH.set_same ..
      have hz2 : (iL cs2).length < 2 ^ 60 := by simp; (first | lia | omega)
      repeat tb_start
      cases h9 : decide ((90 : Int) < ((iL cs2).length : Int))
      · repeat tb_start
        exact TurnC_next (hUi _ _ ⟨cs2, rfl, by (first | lia | omega), k1⟩)
      · repeat tb_start
        exact TurnC_brk (hV _ _ ⟨cs2, rfl, by (first | lia | omega), k1⟩)
  · rintro S' m' ⟨cs, rfl, hcs, n1⟩
    refine ⟨cs, rfl, ?_, n1⟩
    have : (iL (ns.take 60)).length ≤ 60 := by simp; (first | lia | omega)
    (first | lia | omega)
  · rintro S' m' ⟨cs, rfl, hcs, n1⟩
    repeat tb_start
    refine CallW_reverse (PH.set_same ..) (by simp; (first | lia | omega)) ?_
    repeat tb_start
    rw [set_set]
    refine hT _ _ ⟨c, rfl, hc, ⟨cs.reverse, by rw [PH.set_same]; simp [iL], by simp; (first | lia | omega)⟩, hle.set hc⟩
end
section
variable {D : Wd} {n : Nat} {S : PH}
set_option maxHeartbeats 1000000

/-- what _law_say says -/
abbrev SayRow := Int × Vi
noncomputable def rowVals (e : SayRow) : List Value := [.int e.1 0, .int e.2.var 0, .str e.2.kind 0, .str e.2.first 0, .int e.2.last 0, .int e.2.slot 0, .bool e.2.uns]
noncomputable def sayRows (I : Infos) : List SayRow := (isort (I.map (·.1))).filterMap fun k => (getV I k).map fun v => (k, v)
noncomputable def SayAt (S : PH) (t : Addr) (rows : List SayRow) (ch live : List Int) (needs : Bool) (ev : Int) : Prop := ∃ rw_ c l rs, S t = some (.tup [.ref rw_, .ref c, .ref l, .int ev 0, .bool needs]) ∧ S rw_ = some (.list (rs.map .ref)) ∧
  All2 (fun r e => S r = some (.tup (rowVals e))) rs rows ∧ S c = some (.list (iL ch)) ∧ S l = some (.list (iL live))
theorem SayAt.mono {S S' : PH} {t : Addr} {rows : List SayRow} {ch live : List Int} {needs : Bool} {ev : Int} (h : SayAt S t rows ch live needs ev) (k : Le S S') : SayAt S' t rows ch live needs ev :=
  let ⟨a, b, c, rs, h1, h2, h3, h4, h5⟩ := h; ⟨a, b, c, rs, k _ _ h1, k _ _ h2, h3.mono fun _ _ x => k _ _ x, k _ _ h4, k _ _ h5⟩

theorem say_spec {pl di lc ll : Addr} {K : KVi} {ch live : List Int} {needs : Bool} {ev : Int} (hP : PlanAt S pl di lc ll K ch live needs ev) (hKl : K.length ≤ 7) (hc1 : ch.length ≤ 1000) (hl1 : live.length ≤ 1000) :
    CallC D (n + 1) (.ref 295) [.ref pl] S fun v S' => ∃ t, v = .ref t ∧ SayAt S' t (sayRows (kV K)) ch live needs ev ∧ Le S S' := by
  refine CallC_fn (fn_law_say _) loc_law_say rfl fun L env fe T hT => ?_
  change EX _ _ _ (execs [_, _, _] _) _ _ _
  simp only [locs]
  have hpl := hP.obj
  obtain ⟨ep, hdi⟩ := hP.infos
  repeat tb_start
  refine ⟨by simp, fun rw_ hrw => ?_⟩
  repeat tb_start
  refine CallW_sorted_dict (PH.keep_new hrw hdi) (by simp [vDict]; (first | lia | omega)) fun sl hsl => ?_
  have hkeys : (vDict K).map (·.1) = (kV K).map (·.1) := by simp [vDict, kV]
  rw [hkeys]
  have hle0 : Le S ((S.set rw_ (.list [])).set sl (.list (iL (isort ((kV K).map (·.1)))))) := (Le.new hrw).trans (Le.new hsl)
  have hslrw : sl ≠ rw_ := by rintro rfl; rw [PH.set_same] at hsl; cases hsl
  have hrw0 : ((S.set rw_ (.list [])).set sl (.list (iL (isort ((kV K).map (·.1)))))) rw_ = some (.list []) := PH.keep_new hsl (PH.set_same ..)
  have hsl0 : ((S.set rw_ (.list [])).set sl (.list (iL (isort ((kV K).map (·.1)))))) sl = some (.list (iL (isort ((kV K).map (·.1))))) := PH.set_same ..
  have hil : (isort ((kV K).map (·.1))).length ≤ 7 := by rw [isort_length]; simp [kV]; (first | lia | omega)
  have hent : ∀ k ∈ isort ((kV K).map (·.1)), ∃ e ∈ K, e.1 = k := by
    intro k hk
    have hk := (isort_perm _).mem_iff.mp hk
    obtain ⟨x, hx, rfl⟩ := List.mem_map.mp hk
    obtain ⟨e, he, rfl⟩ := List.mem_map.mp hx
    exact ⟨e, he, rfl⟩
  generalize (S.set rw_ (.list [])).set sl (.list (iL (isort ((kV K).map (·.1))))) = S1 at *
  refine forK_list (fun i S' m' => ∃ rs, S' rw_ = some (.list (rs.map .ref)) ∧ All2 (fun r e => S' r = some (.tup (rowVals e))) rs (((isort ((kV K).map (·.1))).take i).filterMap fun k => (getV (kV K) k).map fun v => (k, v)) ∧
    Le S S' ∧ S' sl = some (.list (iL (isort ((kV K).map (·.1))))) ∧ rs.length ≤ i ∧ m' (Str.ofString "plan") = some (.ref pl) ∧ m' (Str.ofString "rows") = some (.ref rw_)) hsl0 ?_ ?_ ?_ ?_
  · exact ⟨[], hrw0, .nil, hle0, hsl0, by simp, by tb_rel, by tb_rel⟩
  · rintro i S' m' ⟨_, _, _, _, h, _⟩; exact h
  · rintro i S' m' Ui hUi hi ⟨rs, hr1, hr2, hle, hsl', hrl, n1, n2⟩
    have hi7 : i < 7 := by simp at hi; (first | lia | omega)
    obtain ⟨k, hk⟩ : ∃ x, (isort ((kV K).map (·.1)))[i]? = some x := ⟨_, List.getElem?_eq_getElem (by simpa using hi)⟩
    obtain ⟨e, he, hek⟩ := hent k (List.mem_of_getElem? hk)
    subst hek
    rw [getElem_of (show (iL (isort ((kV K).map (·.1))))[i]? = some (.int e.1 0) by rw [iL, List.getElem?_map, hk]; rfl)]
    rw [take_succ_get hk, List.filterMap_append] at hUi
    have hgv : getV (kV K) e.1 = some e.2.2 := by rw [getV_kV, find_of_mem hP.ks he]; rfl
    have hva : valueAt (vDict K) e.1 = some (.ref e.2.1) := by rw [valueAt_vDict, find_of_mem hP.ks he]; rfl
    have hpl' := hle _ _ hpl
    have hdi' := hle _ _ hdi
    have hv' := hle _ _ (hP.vis e he)
    have hz2 : (rs.map Value.ref).length ≤ 100 := by simp; (first | lia | omega)
    repeat tb_start
    refine Sub_dict hdi' hva ?_ (by intro _; with_unfolding_all rfl)
    repeat tb_start
    refine ⟨by simp, fun q hq => ?_⟩
    repeat tb_start
    have tt : Tups S' ((S'.set q (.tup [.int e.1 0, .int e.2.2.var 0, .str e.2.2.kind 0, .str e.2.2.first 0, .int e.2.2.last 0, .int e.2.2.slot 0, .bool e.2.2.uns])).set rw_ (.list (rs.map .ref ++ [.ref q]))) := fun a vs h => by
      rw [PH.set_ne (by rintro rfl; rw [hr1] at h; cases h)]; exact PH.keep_new hq h
    have hqrw : q ≠ rw_ := by rintro rfl; rw [hr1] at hq; cases hq
    refine hUi _ _ ⟨rs ++ [q], by rw [PH.set_same]; simp, (hr2.mono fun _ _ x => tt _ _ x).append ?_, (hle.trans (Le.new hq)).set hrw, by rw [PH.set_ne hslrw]; exact PH.keep_new hq hsl', by simp; (first | lia | omega), by tb_rel, by tb_rel⟩
    simp only [List.filterMap_cons, hgv, Option.map_some, List.filterMap_nil]
    exact .cons (by rw [PH.set_ne hqrw]; exact PH.set_same ..) .nil
  · rintro S' m' ⟨rs, hr1, hr2, hle, hsl', hrl, n1, n2⟩
    rw [List.take_of_length_le (by simp)] at hr2
    have hP' := hP.mono hle
    have hpl' := hP'.obj
    have hlc' := hP'.chunks
    have hll' := hP'.live
    repeat tb_start
    refine CallW_list_list hlc' (by simp; (first | lia | omega)) fun c hc => ?_
    repeat tb_start
    refine CallW_list_list (PH.keep_new hc hll') (by simp; (first | lia | omega)) fun l hl => ?_
    repeat tb_start
    refine ⟨by simp, fun t ht => ?_⟩
    repeat tb_start
    have k1 : ∀ x y z, Le S' (((S'.set c x).set l y).set t z) := fun x y z => by
      refine (Le.new hc).trans (Le.trans (Le.new (x := y) ?_) (Le.new ?_))
      · by_cases q : l = c
        · subst q; rw [PH.set_same] at hl; cases hl
        · rw [PH.set_ne q] at hl ⊢; exact hl
      · by_cases q : t = l
        · subst q; rw [PH.set_same] at ht; cases ht
        · rw [PH.set_ne q] at ht ⊢
          by_cases q2 : t = c
          · subst q2; rw [PH.set_same] at ht; cases ht
          · rw [PH.set_ne q2] at ht ⊢; exact ht
    exact hT _ _ ⟨t, rfl, ⟨rw_, c, l, rs, PH.set_same .., k1 _ _ _ _ _ hr1, hr2.mono fun _ _ x => k1 _ _ _ _ _ x, PH.keep_new ht (PH.keep_new hl (PH.set_same ..)), PH.keep_new ht (PH.set_same ..)⟩, hle.trans (k1 _ _ _)⟩
end
section
variable {D : Wd} {n : Nat} {S : PH}
set_option maxHeartbeats 1000000

noncomputable def SOk (v : Vi) : Prop := PyData.strOk v.kind = true ∧ PyData.strOk v.first = true
/-- a plan that the law may change: all its objects are of N -/
structure PlanOk (N : Addr → Prop) (S : PH) (pl : Addr) (I : Infos) (ch live : List Int) (needs : Bool) (ev : Int) : Prop where
  ex : ∃ di lc ll K, PlanAt S pl di lc ll K ch live needs ev ∧ InfOk N S di K ∧ kV K = I ∧ N lc ∧ N ll ∧ lc ≠ ll
  newp : N pl
  clen : ch.length ≤ 4
  llen : live.length = ch.length
  sok : ∀ e ∈ I, SOk e.2
theorem PlanOk.mono {N : Addr → Prop} {S S' : PH} {pl : Addr} {I : Infos} {ch live : List Int} {needs : Bool} {ev : Int} (h : PlanOk N S pl I ch live needs ev) (k : Le S S') : PlanOk N S' pl I ch live needs ev := by
  obtain ⟨⟨di, lc, ll, K, h1, h2, h3, h4⟩, h5, h6, h7, h8⟩ := h
  exact ⟨⟨di, lc, ll, K, h1.mono k, h2.mono k, h3, h4⟩, h5, h6, h7, h8⟩

theorem PlanOk.lc {N : Addr → Prop} {S S' : PH} {c pl : Addr} {I : Infos} {ch live : List Int} {needs : Bool} {ev : Int} (h : PlanOk N S pl I ch live needs ev) (k : Lc c S S') (hc : ¬ N c) : PlanOk N S' pl I ch live needs ev := by
  obtain ⟨⟨di, lc, ll, K, h1, h2, h3, h4, h5, h6⟩, h7, h8, h9, h10⟩ := h
  have ne : ∀ a, N a → a ≠ c := fun a ha q => hc (q ▸ ha)
  have hd : ∃ ep, S' di = some (.dict (vDict K) ep) := let ⟨ep, e⟩ := h1.infos; ⟨ep, k _ _ (ne _ h2.newd) e⟩
  have hv : ∀ e ∈ K, S' e.2.1 = some (.inst 132 e.2.2.fs) := fun e he => k _ _ (ne _ (h2.new e he)) (h1.vis e he)
  exact ⟨⟨di, lc, ll, K, ⟨k _ _ (ne _ h7) h1.obj, hd, hv, k _ _ (ne _ h4) h1.chunks, k _ _ (ne _ h5) h1.live, h1.ks, h1.ad⟩, ⟨hd, hv, h2.new, h2.newd, h2.rng, h2.nd, h2.ks⟩, h3, h4, h5, h6⟩, h7, h8, h9, h10⟩
/-- a change at one object of the plan that leaves the others -/
theorem PlanOk.setLive {N : Addr → Prop} {S : PH} {pl di lc ll : Addr} {K : KVi} {ch live live' : List Int} {needs : Bool} {ev : Int} (h1 : PlanAt S pl di lc ll K ch live needs ev) (h2 : InfOk N S di K) (h4 : N lc) (h5 : N ll) (h6 : lc ≠ ll) (hp : N pl) (hl : ch.length ≤ 4) (he : live'.length = ch.length) (hs : ∀ e ∈ kV K, SOk e.2) :
    PlanOk N (S.set ll (.list (iL live'))) pl (kV K) ch live' needs ev := by
  have hd : ∃ ep, (S.set ll (.list (iL live'))) di = some (.dict (vDict K) ep) := let ⟨ep, e⟩ := h1.infos; ⟨ep, by rw [PH.set_ne (by rintro rfl; rw [h1.live] at e; cases e)]; exact e⟩
  have hv : ∀ e ∈ K, (S.set ll (.list (iL live'))) e.2.1 = some (.inst 132 e.2.2.fs) := fun e he => by
    have := h1.vis e he
    rw [PH.set_ne (by intro q; rw [q, h1.live] at this; cases this)]; exact this
  have ho := h1.obj
  exact ⟨⟨di, lc, ll, K, ⟨by rw [PH.set_ne (by rintro rfl; rw [h1.live] at ho; cases ho)]; exact ho, hd, hv, by rw [PH.set_ne h6]; exact h1.chunks, PH.set_same .., h1.ks, h1.ad⟩, ⟨hd, hv, h2.new, h2.newd, h2.rng, h2.nd, h2.ks⟩, rfl, h4, h5, h6⟩, hp, hl, he, hs⟩
theorem PlanOk.setChunks {N : Addr → Prop} {S : PH} {pl di lc ll : Addr} {K : KVi} {ch ch' live : List Int} {needs : Bool} {ev : Int} (h1 : PlanAt S pl di lc ll K ch live needs ev) (h2 : InfOk N S di K) (h4 : N lc) (h5 : N ll) (h6 : lc ≠ ll) (hp : N pl) (hl : ch'.length ≤ 4) (he : live.length = ch'.length) (hs : ∀ e ∈ kV K, SOk e.2) :
    PlanOk N (S.set lc (.list (iL ch'))) pl (kV K) ch' live needs ev := by
  have hd : ∃ ep, (S.set lc (.list (iL ch'))) di = some (.dict (vDict K) ep) := let ⟨ep, e⟩ := h1.infos; ⟨ep, by rw [PH.set_ne (by rintro rfl; rw [h1.chunks] at e; cases e)]; exact e⟩
  have hv : ∀ e ∈ K, (S.set lc (.list (iL ch'))) e.2.1 = some (.inst 132 e.2.2.fs) := fun e he => by
    have := h1.vis e he
    rw [PH.set_ne (by intro q; rw [q, h1.chunks] at this; cases this)]; exact this
  have ho := h1.obj
  exact ⟨⟨di, lc, ll, K, ⟨by rw [PH.set_ne (by rintro rfl; rw [h1.chunks] at ho; cases ho)]; exact ho, hd, hv, PH.set_same .., by rw [PH.set_ne h6.symm]; exact h1.live, h1.ks, h1.ad⟩, ⟨hd, hv, h2.new, h2.newd, h2.rng, h2.nd, h2.ks⟩, rfl, h4, h5, h6⟩, hp, hl, he, hs⟩
theorem PlanOk.setObj {N : Addr → Prop} {S : PH} {pl di lc ll : Addr} {K : KVi} {ch live : List Int} {needs needs' : Bool} {ev ev' : Int} (h1 : PlanAt S pl di lc ll K ch live needs ev) (h2 : InfOk N S di K) (h4 : N lc) (h5 : N ll) (h6 : lc ≠ ll) (hp : N pl) (hl : ch.length ≤ 4) (he : live.length = ch.length) (hs : ∀ e ∈ kV K, SOk e.2) :
    PlanOk N (S.set pl (.inst 188 (pfs di lc needs' ev' ll))) pl (kV K) ch live needs' ev' := by
  have hpl := h1.obj
  have hd : ∃ ep, (S.set pl (.inst 188 (pfs di lc needs' ev' ll))) di = some (.dict (vDict K) ep) := let ⟨ep, e⟩ := h1.infos; ⟨ep, by rw [PH.set_ne (by rintro rfl; rw [hpl] at e; cases e)]; exact e⟩
  have hv : ∀ e ∈ K, (S.set pl (.inst 188 (pfs di lc needs' ev' ll))) e.2.1 = some (.inst 132 e.2.2.fs) := fun e he => by
    have := h1.vis e he
    rw [PH.set_ne (by intro q; rw [q, hpl] at this; cases this)]; exact this
  have hc := h1.chunks
  have hlv := h1.live
  exact ⟨⟨di, lc, ll, K, ⟨PH.set_same .., hd, hv, by rw [PH.set_ne (by rintro rfl; rw [hpl] at hc; cases hc)]; exact hc, by rw [PH.set_ne (by rintro rfl; rw [hpl] at hlv; cases hlv)]; exact hlv, h1.ks, h1.ad⟩, ⟨hd, hv, h2.new, h2.newd, h2.rng, h2.nd, h2.ks⟩, rfl, h4, h5, h6⟩, hp, hl, he, hs⟩
theorem PlanOk.setInfo {N : Addr → Prop} {S : PH} {pl di lc ll : Addr} {K : KVi} {ch live : List Int} {needs : Bool} {ev : Int} {e : Int × Addr × Vi} {v : Vi} (h1 : PlanAt S pl di lc ll K ch live needs ev) (h2 : InfOk N S di K) (h4 : N lc) (h5 : N ll) (h6 : lc ≠ ll) (hp : N pl) (hl : ch.length ≤ 4) (hle : live.length = ch.length) (he : e ∈ K) :
    PlanAt (S.set e.2.1 (.inst 132 v.fs)) pl di lc ll (kUpd K e.1 fun _ => v) ch live needs ev ∧ InfOk N (S.set e.2.1 (.inst 132 v.fs)) di (kUpd K e.1 fun _ => v) := by
  have hI := h2.upd (f := fun _ => v) he
  have hv := h1.vis e he
  have ho := h1.obj
  have hc := h1.chunks
  have hlv := h1.live
  refine ⟨⟨?_, hI.dict, hI.vis, ?_, ?_, hI.ks, hI.nd⟩, hI⟩
  · rw [PH.set_ne]
    · exact ho
    · intro q; rw [q, hv] at ho; injection ho with ho; injection ho with ho _; cases ho
  · rw [PH.set_ne (by intro q; rw [q, hv] at hc; cases hc)]; exact hc
  · rw [PH.set_ne (by intro q; rw [q, hv] at hlv; cases hlv)]; exact hlv
theorem PlanOk.pop {N : Addr → Prop} {S : PH} {pl di lc ll : Addr} {K : KVi} {ch live : List Int} {needs : Bool} {ev : Int} {k : Int} {ep : Nat} (h1 : PlanAt S pl di lc ll K ch live needs ev) (h2 : InfOk N S di K) (h4 : N lc) (h5 : N ll) (h6 : lc ≠ ll) (hp : N pl) (hl : ch.length ≤ 4) (hle : live.length = ch.length) (hs : ∀ e ∈ kV K, SOk e.2) :
    PlanOk N (S.set di (.dict (without (vDict K) k) ep)) pl (kV (K.filter fun e => decide (e.1 ≠ k))) ch live needs ev := by
  obtain ⟨ep0, hd⟩ := h1.infos
  have hdict : (S.set di (.dict (without (vDict K) k) ep)) di = some (.dict (vDict (K.filter fun e => decide (e.1 ≠ k))) ep) := by
    rw [PH.set_same]; congr 2
    unfold without vDict; rw [List.filter_map]; rfl
  have hv : ∀ e ∈ K.filter (fun e => decide (e.1 ≠ k)), (S.set di (.dict (without (vDict K) k) ep)) e.2.1 = some (.inst 132 e.2.2.fs) := fun e he => by
    have := h1.vis e (List.mem_filter.mp he).1
    rw [PH.set_ne (by intro q; rw [q, hd] at this; cases this)]; exact this
  have hsub : (K.filter fun e => decide (e.1 ≠ k)).Sublist K := List.filter_sublist
  have ho := h1.obj
  have hc := h1.chunks
  have hlv := h1.live
  exact ⟨⟨di, lc, ll, _, ⟨by rw [PH.set_ne (by rintro rfl; rw [hd] at ho; cases ho)]; exact ho, ⟨ep, hdict⟩, hv, by rw [PH.set_ne (by rintro rfl; rw [hd] at hc; cases hc)]; exact hc, by rw [PH.set_ne (by rintro rfl; rw [hd] at hlv; cases hlv)]; exact hlv, (hsub.map _).nodup h1.ks, (hsub.map _).nodup h1.ad⟩,
    ⟨⟨ep, hdict⟩, hv, fun e he => h2.new e (List.mem_filter.mp he).1, h2.newd, fun e he => h2.rng e (List.mem_filter.mp he).1, (hsub.map _).nodup h2.nd, (hsub.map _).nodup h2.ks⟩, rfl, h4, h5, h6⟩, hp, hl, hle, fun e he => by
      obtain ⟨x, hx, rfl⟩ := List.mem_map.mp he
      exact hs _ (List.mem_map.mpr ⟨x, (List.mem_filter.mp hx).1, rfl⟩)⟩

theorem change_spec {N : Addr → Prop} {c pl : Addr} {I : Infos} {ch live : List Int} {needs : Bool} {ev : Int} (hc : Cs S c) (hP : PlanOk N S pl I ch live needs ev) (hcN : ¬ N c) (hch : 0 < ch.length) (hN : ∀ a, S a = none → N a) :
    CallC D (n + 2) (.ref 302) [.ref c, .ref pl] S fun v S' => v = .none ∧ Cs S' c ∧ (∃ I' ch' live' needs' ev', PlanOk N S' pl I' ch' live' needs' ev' ∧ ch'.length = ch.length) ∧ Ext (fun a => N a ∨ a = c) S S' := by
  refine CallC_fn (fn_law_change _) loc_law_change rfl fun L env fe T hT => ?_
  change EX _ _ _ (execs (_ :: _ :: _ :: _) _) _ _ _
  simp only [locs]
  repeat tb_start
  refine CallW_do (coin_any hc (by decide)) fun v S1 z => ?_
  obtain ⟨way, e1, w0, w12, hc1, hl1⟩ := z
  subst e1
  have hP1 := hP.lc hl1 hcN
  obtain ⟨cs1, hcs1, hcsl1⟩ := id hc1
  obtain ⟨⟨di, lc, ll, K, h1, h2, h3, h4, h5, h6⟩, h7, h8, h9, h10⟩ := id hP1
  rw [← h3] at h10
  have sokK : ∀ e ∈ K, SOk e.2.2 := fun e he => h10 _ (List.mem_map.mpr ⟨e, he, rfl⟩)
  have sokU : ∀ (K : KVi) (k : Int) (v : Vi), (∀ e ∈ K, SOk e.2.2) → SOk v → ∀ e ∈ kUpd K k fun _ => v, SOk e.2.2 := fun K k v h hv e he => by
    obtain ⟨x, hx, rfl⟩ := List.mem_map.mp he
    split
    · exact hv
    · exact h x hx
  have sokV : ∀ K : KVi, (∀ e ∈ K, SOk e.2.2) → ∀ e ∈ kV K, SOk e.2 := fun K h e he => by
    obtain ⟨x, hx, rfl⟩ := List.mem_map.mp he
    exact h x hx
  obtain ⟨ep, hdi⟩ := h1.infos
  have hpl := h1.obj
  have hlc := h1.chunks
  repeat tb_start
  refine CallW_sorted_dict hdi (by have := h2.small; simp [vDict]; (first | lia | omega)) fun sl hsl => ?_
  have hkeys : (vDict K).map (·.1) = (kV K).map (·.1) := by simp [vDict, kV]
  rw [hkeys]
  have hle1 : Le S1 (S1.set sl (.list (iL (isort ((kV K).map (·.1)))))) := Le.new hsl
  have hsl1 : (S1.set sl (.list (iL (isort ((kV K).map (·.1)))))) sl = some (.list (iL (isort ((kV K).map (·.1))))) := PH.set_same ..
  have hNsl : N sl := hN _ (by
    cases q : S sl with
    | none => rfl
    | some x =>
      by_cases hq : sl = c
      · subst hq; rw [hcs1] at hsl; cases hsl
      · rw [hl1 _ _ hq q] at hsl; cases hsl)
  have hsc : sl ≠ c := by rintro rfl; rw [hcs1] at hsl; cases hsl
  have hlS2 : Lc c S (S1.set sl (.list (iL (isort ((kV K).map (·.1)))))) := hl1.new hsl
  have hc2 := hc1.new (x := .list (iL (isort ((kV K).map (·.1))))) hsl
  have hpl1 := hle1 _ _ hpl
  have hlc1 := hle1 _ _ hlc
  have hzc : (iL ch).length < 2 ^ 60 := by simp; (first | lia | omega)
  generalize S1.set sl (.list (iL (isort ((kV K).map (·.1))))) = S2 at *
  repeat tb_start
  rw [iL_length]
  refine CallW_do (coin_any hc2 (by (first | lia | omega))) fun v S3 z => ?_
  obtain ⟨at_, e2, a0, a1, hc3, hl3⟩ := z
  subst e2
  repeat tb_start
  refine CallW_do (coin_any hc3 (by decide)) fun v S4 z => ?_
  obtain ⟨va, e3, v0, v6, hc4, hl4⟩ := z
  subst e3
  have hlS4 : Lc c S S4 := (hlS2.trans hl3).trans hl4
  have hsl4 := (hl3.trans hl4) _ _ hsc hsl1
  have hP4 := hP.lc hlS4 hcN
  have hplan4 := (h1.mono hle1)
  have g1 : PlanAt S4 pl di lc ll K ch live needs ev := by
    have ne : ∀ a, N a → a ≠ c := fun a ha q => hcN (q ▸ ha)
    have kk := hl3.trans hl4
    exact ⟨kk _ _ (ne _ h7) hplan4.obj, let ⟨ep, e⟩ := hplan4.infos; ⟨ep, kk _ _ (ne _ h2.newd) e⟩, fun e he => kk _ _ (ne _ (h2.new e he)) (hplan4.vis e he), kk _ _ (ne _ h4) hplan4.chunks, kk _ _ (ne _ h5) hplan4.live, h1.ks, h1.ad⟩
  have g2 : InfOk N S4 di K := ⟨g1.infos, g1.vis, h2.new, h2.newd, h2.rng, h2.nd, h2.ks⟩
  have hcN' : ∀ a, N a → a ≠ c := fun a ha q => hcN (q ▸ ha)
  have hE4 : Ext (fun a => N a ∨ a = c) S S4 := by
    obtain ⟨csx, hcx, _⟩ := hc
    refine ⟨fun b x nb e => hlS4 b x (fun q => nb (.inr q)) e, hlS4.tups hcx, fun a h => ?_⟩
    cases q : S a with
    | none => rfl
    | some x =>
      by_cases hq : a = c
      · subst hq; obtain ⟨cs4, hc4', _⟩ := hc4; rw [hc4'] at h; cases h
      · rw [hlS4 _ _ hq q] at h; cases h
  have cs4 : ∀ a x, N a → Cs (S4.set a x) c := fun a x ha => by
    obtain ⟨cs, e1, e2⟩ := hc4
    exact ⟨cs, by rw [PH.set_ne (Ne.symm (hcN' a ha))]; exact e1, e2⟩
  have ex4 : ∀ a x y, N a → S4 a = some y → (∀ vs, y ≠ .tup vs) → Ext (fun a => N a ∨ a = c) S (S4.set a x) := fun a x y ha hy hn => hE4.own hy (.inl ha) hn
  obtain ⟨ep4, hdi4⟩ := g1.infos
  have hpl4 := g1.obj
  have hlc4 := g1.chunks
  have hll4 := g1.live
  have fin : ∀ S5 (I' : Infos) (ch' live' : List Int) (needs' : Bool) (ev' : Int), Cs S5 c → PlanOk N S5 pl I' ch' live' needs' ev' → ch'.length = ch.length → Ext (fun a => N a ∨ a = c) S S5 →
      T .none S5 := fun S5 I' ch' live' needs' ev' b1 b2 b3 b4 => hT _ _ ⟨rfl, b1, ⟨I', ch', live', needs', ev', b2, b3⟩, b4⟩
  have hat : at_.toNat < ch.length := by (first | lia | omega)
  repeat tb_start
  cases c0 : way == 0
  case true =>
    repeat tb_start
    refine SetI_list hll4 a0 (by simp; (first | lia | omega)) (by simp; (first | lia | omega)) ?_
    repeat tb_start
    have hset : (iL live).set at_.toNat (.int (va - 1) 0) = iL (live.set at_.toNat (va - 1)) := by simp [iL, List.map_set]
    rw [hset]
    exact fin _ _ _ _ _ _ (cs4 _ _ h5) (PlanOk.setLive g1 g2 h4 h5 h6 h7 h8 (by simp [h9]) h10) rfl (ex4 _ _ _ h5 hll4 (by simp))
  repeat tb_start
  cases c1 : way == 1
  case true =>
    repeat tb_start
    refine SetI_list hlc4 a0 (by simp; (first | lia | omega)) (by simp; (first | lia | omega)) ?_
    repeat tb_start
    have hset : (iL ch).set at_.toNat (.int (va - 1) 0) = iL (ch.set at_.toNat (va - 1)) := by simp [iL, List.map_set]
    rw [hset]
    exact fin _ _ _ _ _ _ (cs4 _ _ h4) (PlanOk.setChunks g1 g2 h4 h5 h6 h7 (by simp [h8]) (by simp [h9]) h10) (by simp) (ex4 _ _ _ h4 hlc4 (by simp))
  repeat tb_start
  cases c2 : way == 2
  case true =>
    repeat tb_start
    refine SetA_inst' hpl4 (cok_188 _) (by simp) (by simp [pfs]) (fput_plive ..) ?_
    repeat tb_start
    exact fin _ _ _ _ _ _ (cs4 _ _ h7) (PlanOk.setObj g1 g2 h4 h5 h6 h7 h8 h9 h10) rfl (ex4 _ _ _ h7 hpl4 (by simp))
  repeat tb_start
  cases c3 : way == 3
  case true =>
    repeat tb_start
    refine Bin_mod (by decide) ?_
    repeat tb_start
    refine SetA_inst' hpl4 (cok_188 _) (by simp) (by simp [pfs]) (fput_pneeds ..) ?_
    repeat tb_start
    exact fin _ _ _ _ _ _ (cs4 _ _ h7) (PlanOk.setObj g1 g2 h4 h5 h6 h7 h8 h9 h10) rfl (ex4 _ _ _ h7 hpl4 (by simp))
  repeat tb_start
  refine ⟨by simp, fun el hel => ?_⟩
  refine Cmp_ne_ints (ns := isort ((kV K).map (·.1))) (ms := []) (PH.keep_new hel hsl4) (PH.set_same ..) ?_
  refine Tru_bool ?_
  cases hemp : decide (isort ((kV K).map (·.1)) = [])
  case true =>
    refine ite_f rfl ?_
    refine EX_drop (S' := S4) ?_ (Le.new hel)
    repeat tb_start
    exact fin _ _ _ _ _ _ hc4 hP4 rfl hE4
  refine ite_t rfl ?_
  refine EX_drop (S' := S4) ?_ (Le.new hel)
  have hne : isort ((kV K).map (·.1)) ≠ [] := of_decide_eq_false hemp
  have hpos : 0 < (isort ((kV K).map (·.1))).length := List.length_pos_iff.mpr hne
  have hlen7 : (isort ((kV K).map (·.1))).length ≤ 7 := by rw [isort_length]; have := g2.small; simp [kV]; (first | lia | omega)
  have pick : ∀ x : Int, ∃ e ∈ K, (iL (isort ((kV K).map (·.1))))[(x % ((isort ((kV K).map (·.1))).length : Int)).toNat]? = some (.int e.1 0) ∧ valueAt (vDict K) e.1 = some (.ref e.2.1) := by
    intro x
    have b1 := Int.emod_nonneg x (show ((isort ((kV K).map (·.1))).length : Int) ≠ 0 by (first | lia | omega))
    have b2 := Int.emod_lt_of_pos x (show (0 : Int) < ((isort ((kV K).map (·.1))).length : Int) by (first | lia | omega))
    obtain ⟨k, hk⟩ : ∃ k, (isort ((kV K).map (·.1)))[(x % ((isort ((kV K).map (·.1))).length : Int)).toNat]? = some k := ⟨_, List.getElem?_eq_getElem (by (first | lia | omega))⟩
    have hm := (isort_perm _).mem_iff.mp (List.mem_of_getElem? hk)
    obtain ⟨y, hy, rfl⟩ := List.mem_map.mp hm
    obtain ⟨e, he, rfl⟩ := List.mem_map.mp hy
    exact ⟨e, he, by rw [iL, List.getElem?_map, hk]; rfl, by rw [valueAt_vDict, find_of_mem g1.ks he]; rfl⟩
  have modb : ∀ x : Int, 0 ≤ x % ((isort ((kV K).map (·.1))).length : Int) ∧ x % ((isort ((kV K).map (·.1))).length : Int) < 2 ^ 60 := fun x => by
    have b1 := Int.emod_nonneg x (show ((isort ((kV K).map (·.1))).length : Int) ≠ 0 by (first | lia | omega))
    have b2 := Int.emod_lt_of_pos x (show (0 : Int) < ((isort ((kV K).map (·.1))).length : Int) by (first | lia | omega))
    exact ⟨b1, by (first | lia | omega)⟩
  have hzn : (iL (isort ((kV K).map (·.1)))).length < 2 ^ 60 := by simp; (first | lia | omega)
  obtain ⟨ea, hea, hia, hva⟩ := pick at_
  obtain ⟨eb, heb, hib, hvb⟩ := pick va
  have hvia := g1.vis ea hea
  have hvib := g1.vis eb heb
  have setA : ∀ v : Vi, SOk v → Cs (S4.set ea.2.1 (.inst 132 v.fs)) c ∧ PlanOk N (S4.set ea.2.1 (.inst 132 v.fs)) pl (kV (kUpd K ea.1 fun _ => v)) ch live needs ev ∧ Ext (fun a => N a ∨ a = c) S (S4.set ea.2.1 (.inst 132 v.fs)) := fun v hv => by
    obtain ⟨p1, p2⟩ := PlanOk.setInfo (v := v) g1 g2 h4 h5 h6 h7 h8 h9 hea
    exact ⟨cs4 _ _ (g2.new ea hea), ⟨⟨di, lc, ll, _, p1, p2, rfl, h4, h5, h6⟩, h7, h8, h9, sokV _ (sokU _ _ _ sokK hv)⟩, ex4 _ _ _ (g2.new ea hea) hvia (by simp)⟩
  repeat tb_start
  rw [iL_length]
  refine Bin_mod (by (first | lia | omega)) ?_
  refine Sub_list hsl4 (modb _).1 (modb _).2 hia ?_ (by intro _; with_unfolding_all rfl)
  refine Sub_dict hdi4 hva ?_ (by intro _; with_unfolding_all rfl)
  repeat tb_start
  rw [iL_length]
  refine Bin_mod (by (first | lia | omega)) ?_
  refine Sub_list hsl4 (modb _).1 (modb _).2 hib ?_ (by intro _; with_unfolding_all rfl)
  refine Sub_dict hdi4 hvb ?_ (by intro _; with_unfolding_all rfl)
  repeat tb_start
  have i6 : va = 0 ∨ va = 1 ∨ va = 2 ∨ va = 3 ∨ va = 4 ∨ va = 5 := by (first | lia | omega)
  have i3 : va % 3 = 0 ∨ va % 3 = 1 ∨ va % 3 = 2 := by (first | lia | omega)
  cases c4 : way == 4
  case true =>
    repeat tb_start
    refine ⟨by simp, fun q hq => ?_⟩
    repeat tb_start
    refine Bin_mod (by decide) ?_
    obtain ⟨w, hw, hws⟩ : ∃ w : Str, [Value.str (Str.ofString "void") 0, Value.str (Str.ofString "temp") 0, Value.str (Str.ofString "perm") 0][(va % 3).toNat]? = some (.str w 0) ∧ PyData.strOk w = true := by
      rcases i3 with h | h | h <;> rw [h] <;> exact ⟨_, rfl, by decide +kernel⟩
    refine Sub_list (PH.set_same ..) (by (first | lia | omega)) (by (first | lia | omega)) hw ?_ (by intro _; with_unfolding_all rfl)
    refine EV_drop (S' := S4) ?_ (Le.new hq)
    repeat tb_start
    obtain ⟨b1, b2, b3⟩ := setA { ea.2.2 with kind := w } ⟨hws, (sokK _ hea).2⟩
    exact fin _ _ _ _ _ _ b1 b2 rfl b3
  repeat tb_start
  cases c5 : way == 5
  case true =>
    repeat tb_start
    refine ⟨by simp, fun q hq => ?_⟩
    repeat tb_start
    obtain ⟨w, hw, hws⟩ : ∃ w : Str, [Value.str (Str.ofString "head_arg") 0, Value.str (Str.ofString "head_struct") 0, Value.str (Str.ofString "goal_arg") 0, Value.str (Str.ofString "goal_struct") 0, Value.str (Str.ofString "special") 0, Value.str (Str.ofString "head") 0][va.toNat]? = some (.str w 0) ∧ PyData.strOk w = true := by
      rcases i6 with h | h | h | h | h | h <;> rw [h] <;> exact ⟨_, rfl, by decide +kernel⟩
    refine Sub_list (PH.set_same ..) (by (first | lia | omega)) (by (first | lia | omega)) hw ?_ (by intro _; with_unfolding_all rfl)
    refine EV_drop (S' := S4) ?_ (Le.new hq)
    repeat tb_start
    obtain ⟨b1, b2, b3⟩ := setA { ea.2.2 with first := w } ⟨(sokK _ hea).1, hws⟩
    exact fin _ _ _ _ _ _ b1 b2 rfl b3
  repeat tb_start
  have swap : ∃ v' : Vi, ((S4.set ea.2.1 (.inst 132 ({ ea.2.2 with slot := eb.2.2.slot } : Vi).fs)) eb.2.1 = some (.inst 132 v'.fs)) ∧ Cs ((S4.set ea.2.1 (.inst 132 ({ ea.2.2 with slot := eb.2.2.slot } : Vi).fs)).set eb.2.1 (.inst 132 ({ v' with slot := ea.2.2.slot } : Vi).fs)) c ∧
      (∃ I', PlanOk N ((S4.set ea.2.1 (.inst 132 ({ ea.2.2 with slot := eb.2.2.slot } : Vi).fs)).set eb.2.1 (.inst 132 ({ v' with slot := ea.2.2.slot } : Vi).fs)) pl I' ch live needs ev) ∧
      Ext (fun a => N a ∨ a = c) S ((S4.set ea.2.1 (.inst 132 ({ ea.2.2 with slot := eb.2.2.slot } : Vi).fs)).set eb.2.1 (.inst 132 ({ v' with slot := ea.2.2.slot } : Vi).fs)) := by
    obtain ⟨p1, p2⟩ := PlanOk.setInfo (v := { ea.2.2 with slot := eb.2.2.slot }) g1 g2 h4 h5 h6 h7 h8 h9 hea
    have s1 := sokU K ea.1 { ea.2.2 with slot := eb.2.2.slot } sokK (sokK _ hea)
    have hmem : ∃ v', (eb.1, eb.2.1, v') ∈ kUpd K ea.1 fun _ => { ea.2.2 with slot := eb.2.2.slot } := by
      by_cases h : eb.1 = ea.1
      · exact ⟨_, List.mem_map.mpr ⟨eb, heb, by rw [if_pos h]⟩⟩
      · exact ⟨eb.2.2, List.mem_map.mpr ⟨eb, heb, by rw [if_neg h]⟩⟩
    obtain ⟨v', hv'⟩ := hmem
    have hvis := p1.vis _ hv'
    obtain ⟨r1, r2⟩ := PlanOk.setInfo (v := { v' with slot := ea.2.2.slot }) p1 p2 h4 h5 h6 h7 h8 h9 hv'
    refine ⟨v', hvis, ?_, ⟨_, ⟨di, lc, ll, _, r1, r2, rfl, h4, h5, h6⟩, h7, h8, h9, sokV _ (sokU _ _ _ s1 (s1 _ hv'))⟩, (ex4 _ _ _ (g2.new ea hea) hvia (by simp)).own hvis (.inl (g2.new eb heb)) (by simp)⟩
    obtain ⟨cs, q1, q2⟩ := cs4 ea.2.1 (.inst 132 ({ ea.2.2 with slot := eb.2.2.slot } : Vi).fs) (g2.new ea hea)
    exact ⟨cs, by rw [PH.set_ne (Ne.symm (hcN' _ (g2.new eb heb)))]; exact q1, q2⟩
  obtain ⟨v', hsv, hsc', ⟨I', hsp⟩, hse⟩ := swap
  cases c6 : way == 6
  case true =>
    repeat tb_start
    exact fin _ _ _ _ _ _ hsc' hsp rfl hse
  repeat tb_start
  cases c7 : way == 7
  case true =>
    repeat tb_start
    exact fin _ _ _ _ _ _ hsc' hsp rfl hse
  repeat tb_start
  cases c8 : way == 8
  case true =>
    repeat tb_start
    obtain ⟨b1, b2, b3⟩ := setA { ea.2.2 with slot := va } (sokK _ hea)
    exact fin _ _ _ _ _ _ b1 b2 rfl b3
  repeat tb_start
  cases c9 : way == 9
  case true =>
    repeat tb_start
    obtain ⟨b1, b2, b3⟩ := setA { ea.2.2 with last := va - 1 } (sokK _ hea)
    exact fin _ _ _ _ _ _ b1 b2 rfl b3
  repeat tb_start
  cases c10 : way == 10
  case true =>
    repeat tb_start
    refine Bin_mod (by decide) ?_
    repeat tb_start
    obtain ⟨b1, b2, b3⟩ := setA { ea.2.2 with uns := va % 2 == 0 } (sokK _ hea)
    exact fin _ _ _ _ _ _ b1 b2 rfl b3
  repeat tb_start
  cases c11 : decide (va < 3)
  case true =>
    repeat tb_start
    obtain ⟨b1, b2, b3⟩ := setA { ea.2.2 with var := eb.2.2.var } (sokK _ hea)
    exact fin _ _ _ _ _ _ b1 b2 rfl b3
  repeat tb_start
  rw [iL_length]
  refine Bin_mod (by (first | lia | omega)) ?_
  refine Sub_list hsl4 (modb _).1 (modb _).2 hia ?_ (by intro _; with_unfolding_all rfl)
  repeat tb_start
  refine CallW_dpop hdi4 (by have := g2.small; simp [vDict]; (first | lia | omega)) hva fun ep' => ?_
  repeat tb_start
  exact fin _ _ _ _ _ _ (cs4 _ _ g2.newd) (PlanOk.pop g1 g2 h4 h5 h6 h7 h8 h9 h10) rfl (ex4 _ _ _ g2.newd hdi4 (by simp))
end
section
/-! the places of a key are its meetings, spread -/
noncomputable def evk (k : Int) (es : List (Int × Pt)) : List Pt := (es.filter fun e => decide (e.1 = k)).map (·.2)
noncomputable def mtk (k : Int) (ms : List Ev) : List Ev := ms.filter fun e => decide (e.k = k)
noncomputable def spread (e : Ev) : List Pt := List.replicate e.c.toNat (e.goal, e.w)
noncomputable def mts (as : List Tm) (gs : List Gl) : List Ev := rowMts (Str.ofString "head") (-1) 0 as ++ goalMts 0 0 gs
theorem evk_app (k : Int) (a b : List (Int × Pt)) : evk k (a ++ b) = evk k a ++ evk k b := by simp [evk]
theorem mtk_app (k : Int) (a b : List Ev) : mtk k (a ++ b) = mtk k a ++ mtk k b := by simp [mtk]

noncomputable def valC (kvs : List (Int × Value)) (k : Int) : Int := match valueAt kvs k with | some (.int c _) => c | _ => 0
theorem valC_one (kvs : List (Int × Value)) (x k : Int) : valC (oneC kvs x) k = if k = x then valC kvs x + 1 else valC kvs k := by
  unfold valC oneC
  rw [stored_get]
  by_cases h : k = x
  · subst h; rw [if_pos rfl, if_pos rfl] <;> rfl
  · rw [if_neg h, if_neg h]
theorem valC_fold (k : Int) : ∀ (ks : List Int) (kvs : List (Int × Value)), valC (ks.foldl oneC kvs) k = valC kvs k + (ks.count k : Int)
  | [], kvs => by simp
  | x :: ks, kvs => by
    rw [List.foldl_cons, valC_fold k ks, valC_one, List.count_cons]
    by_cases h : k = x
    · subst h; simp; (first | lia | omega)
    · have : ¬ x = k := fun e => h e.symm
      simp [h, this]
theorem cntOf_count (ks : List Int) (k : Int) : cntOf ks k = (ks.count k : Int) := by
  have := valC_fold k ks []
  have e : valC (ks.foldl oneC []) k = cntOf ks k := rfl
  rw [e] at this
  rw [this]; simp [valC, valueAt]
theorem dedup_nodup (ks : List Int) : (dedupI ks).Nodup := by
  have key : ∀ (ks res : List Int), res.Nodup → (ks.foldl oneV res).Nodup := by
    intro ks
    induction ks with
    | nil => intro res h; exact h
    | cons x ks ih =>
      intro res h
      refine ih _ ?_
      unfold oneV; split
      · exact h
      · rename_i hx
        rw [List.nodup_append]
        exact ⟨h, by simp, fun a ha b hb e => hx (by have : b = x := by simpa using hb
                                                     rw [← this, ← e]; exact ha)⟩
  exact key ks [] .nil
theorem filter_nodup {l : List Int} {k : Int} (hn : l.Nodup) (hk : k ∈ l) : (l.filter fun x => decide (x = k)) = [k] := by
  induction l with
  | nil => cases hk
  | cons x l ih =>
    rw [List.nodup_cons] at hn
    rw [List.filter_cons]
    rcases List.mem_cons.mp hk with e | hk
    · subst e
      have : (l.filter fun x => decide (x = k)) = [] := by
        rw [List.filter_eq_nil_iff]; intro y hy; simp; rintro rfl; exact hn.1 hy
      simp [this]
    · have : ¬ x = k := by rintro rfl; exact hn.1 hk
      simp [this, ih hn.2 hk]
theorem evs_map (at_ : Int) (w : Str) (l : Lf) : l.evs at_ w = l.vars.map fun k => (k, (at_, w)) := by cases l <;> rfl
theorem evk_map (k at_ : Int) (w : Str) (ks : List Int) : evk k (ks.map fun k => (k, (at_, w))) = List.replicate (ks.count k) (at_, w) := by
  unfold evk
  induction ks with
  | nil => rfl
  | cons x ks ih =>
    rw [List.map_cons, List.filter_cons, List.count_cons]
    by_cases h : x = k
    · simp only [h, decide_true, if_true, List.map_cons, ih, beq_self_eq_true]; rfl
    · simp only [h, decide_false, Bool.false_eq_true, if_false, ih]
      have : (x == k) = false := by simpa using h
      simp [this]
theorem tm_spread (k goal chunk : Int) (pl : Str) (t : Tm) : evk k (t.evs goal (pl ++ Str.ofString "_arg") (pl ++ Str.ofString "_struct")) = (mtk k (t.mts pl goal chunk)).flatMap spread := by
  have gen : ∀ ks : List Int, List.replicate (ks.count k) (goal, pl ++ Str.ofString "_struct") = (mtk k ((dedupI ks).map fun k => (⟨k, pl ++ Str.ofString "_struct", goal, chunk, cntOf ks k⟩ : Ev))).flatMap spread := by
    intro ks
    unfold mtk
    rw [List.filter_map]
    by_cases hk : k ∈ ks
    · have h1 := filter_nodup (dedup_nodup ks) (mem_dedup.mpr hk)
      have h2 : ((dedupI ks).filter ((fun e : Ev => decide (e.k = k)) ∘ fun k => ⟨k, pl ++ Str.ofString "_struct", goal, chunk, cntOf ks k⟩)) = [k] := h1
      rw [h2]
      simp [spread, cntOf_count]
    · have h2 : ((dedupI ks).filter ((fun e : Ev => decide (e.k = k)) ∘ fun k => ⟨k, pl ++ Str.ofString "_struct", goal, chunk, cntOf ks k⟩)) = [] := by
        rw [List.filter_eq_nil_iff]; intro x hx; simp; rintro rfl; exact hk (mem_dedup.mp hx)
      rw [h2, List.count_eq_zero_of_not_mem hk]; rfl
  rcases t with (_ | j) | ⟨x, y⟩
  · simp [Tm.evs, Lf.evs, Tm.mts, Tm.vars, Lf.vars, dedupI, evk, mtk]
  · simp only [Tm.evs, Lf.evs, Tm.mts, evk, mtk]
    by_cases h : j = k <;> simp [h, spread]
  · have : (Tm.s x y).evs goal (pl ++ Str.ofString "_arg") (pl ++ Str.ofString "_struct") = ((Tm.s x y).vars).map fun k => (k, (goal, pl ++ Str.ofString "_struct")) := by
      simp [Tm.evs, evs_map, Tm.vars]
    rw [this, evk_map]
    exact gen _
theorem row_spread (k goal chunk : Int) (pl : Str) (ts : List Tm) : evk k (rowEvs (goal, pl, ts)) = (mtk k (rowMts pl goal chunk ts)).flatMap spread := by
  unfold rowEvs rowMts
  dsimp only
  induction ts with
  | nil => rfl
  | cons t ts ih => rw [List.flatMap_cons, List.flatMap_cons, evk_app, mtk_app, List.flatMap_append, ih, tm_spread k goal chunk pl t]
end
section
theorem mem_tmvars {t : Tm} (h : t.ok) : ∀ k ∈ t.vars, k ≠ 6 := by
  have hl : ∀ l : Lf, l.ok → ∀ k ∈ l.vars, k ≠ 6 := by
    intro l hl k hk
    cases l with
    | a => cases hk
    | v c => have : k = c := by simpa [Lf.vars] using hk
             subst this; obtain ⟨h1, h2⟩ := hl; (first | lia | omega)
  cases t with
  | lf l => exact hl l h
  | s x y => intro k hk; rcases List.mem_append.mp hk with hk | hk
             · exact hl x h.1 k hk
             · exact hl y h.2 k hk
theorem mem_tmmts {t : Tm} {pl : Str} {goal chunk : Int} : ∀ e ∈ t.mts pl goal chunk, e.k ∈ t.vars ∧ e.goal = goal ∧ e.chunk = chunk ∧ 1 ≤ e.c := by
  have gen : ∀ t : Tm, ∀ e ∈ (dedupI t.vars).map (fun k => (⟨k, pl ++ Str.ofString "_struct", goal, chunk, cntOf t.vars k⟩ : Ev)), e.k ∈ t.vars ∧ e.goal = goal ∧ e.chunk = chunk ∧ 1 ≤ e.c := by
    intro t e he
    obtain ⟨k, hk, rfl⟩ := List.mem_map.mp he
    have hk := mem_dedup.mp hk
    refine ⟨hk, rfl, rfl, ?_⟩
    show 1 ≤ cntOf t.vars k
    rw [cntOf_count]; have := List.count_pos_iff.mpr hk; (first | lia | omega)
  rcases t with (_ | k) | ⟨x, y⟩
  · intro e he; exact gen _ e he
  · intro e he
    have : e = _ := List.mem_singleton.mp he
    subst this; exact ⟨by simp [Tm.vars, Lf.vars], rfl, rfl, by simp⟩
  · intro e he; exact gen _ e he
theorem mem_rowmts {ts : List Tm} {pl : Str} {goal chunk : Int} : ∀ e ∈ rowMts pl goal chunk ts, (∃ t ∈ ts, e.k ∈ t.vars) ∧ e.goal = goal ∧ e.chunk = chunk ∧ 1 ≤ e.c := by
  intro e he
  obtain ⟨t, ht, he⟩ := List.mem_flatMap.mp he
  have := mem_tmmts e he
  exact ⟨⟨t, ht, this.1⟩, this.2⟩
theorem mtk6 {ts : List Tm} {pl : Str} {goal chunk : Int} (h : ∀ t ∈ ts, t.ok) : mtk 6 (rowMts pl goal chunk ts) = [] := by
  unfold mtk
  rw [List.filter_eq_nil_iff]
  intro e he
  obtain ⟨⟨t, ht, hk⟩, _⟩ := mem_rowmts e he
  simpa using mem_tmvars (h t ht) _ hk
theorem evk6 {at_ : Int} {pl : Str} {ts : List Tm} (h : ∀ t ∈ ts, t.ok) : evk 6 (rowEvs (at_, pl, ts)) = [] := by
  rw [row_spread 6 at_ 0, mtk6 h]; rfl
noncomputable def specM (c i : Int) (g : Gl) : List Ev := if 0 ≤ g.special then [⟨g.special, Str.ofString "special", i, c, 1⟩] else []
theorem spec_spread (k i c : Int) (g : Gl) : evk k (spec1 i g) = (mtk k (specM c i g)).flatMap spread := by
  unfold spec1 specM evk mtk
  by_cases h : 0 ≤ g.special
  · rw [if_pos h, if_pos h]
    by_cases hk : g.special = k <;> simp [hk, spread]
  · rw [if_neg h, if_neg h]; rfl
theorem spec_no {k i : Int} {g : Gl} (h : k ≠ 6) : evk k (spec1 i g) = [] := by
  unfold spec1 evk
  cases g <;> simp [Gl.special] <;> exact fun e => h e.symm
theorem specs_no {k : Int} (h : k ≠ 6) : ∀ (gs : List Gl) (i : Int), evk k (specs i gs) = []
  | [], i => rfl
  | g :: r, i => by rw [specs, evk_app, spec_no h, specs_no h r]; rfl
theorem goals_spread (k : Int) : ∀ (gs : List Gl) (c i : Int), (∀ g ∈ gs, g.ok) → evk k (specs i gs) ++ evk k ((goalRows i gs).flatMap rowEvs) = (mtk k (goalMts c i gs)).flatMap spread
  | [], c, i, _ => rfl
  | g :: r, c, i, h => by
    have ih := goals_spread k r (if g.isCall then c + 1 else c) (i + 1) fun x hx => h x (.tail _ hx)
    have hg := h g (List.mem_cons_self ..)
    rw [specs, goalRows, List.flatMap_cons, evk_app, evk_app, goalMts, mtk_app, List.flatMap_append, ← ih]
    have e1 : gMts c i g = specM c i g ++ rowMts (Str.ofString "goal") i c g.terms := rfl
    rw [e1, mtk_app, List.flatMap_append, ← spec_spread k i c g, row_spread k i c]
    by_cases hk : k = 6
    · subst hk
      rw [mtk6 hg.2]; simp
    · rw [spec_no hk, specs_no hk]; simp
theorem ev_spread {as : List Tm} {gs : List Gl} (wf : WfK as gs) (k : Int) : evk k (allEvs as gs) = (mtk k (mts as gs)).flatMap spread := by
  unfold allEvs rowsOf mts
  rw [evk_app, List.flatMap_cons, evk_app, mtk_app, List.flatMap_append, ← goals_spread k gs 0 0 wf.gok, ← row_spread k (-1) 0]
  by_cases hk : k = 6
  · subst hk; rw [evk6 wf.aok]; simp
  · rw [specs_no hk]; simp

/-! goals and chunks of the meetings -/
theorem gmts_mem {c i : Int} {g : Gl} : ∀ e ∈ gMts c i g, e.goal = i ∧ e.chunk = c ∧ 1 ≤ e.c := by
  intro e he
  rcases List.mem_append.mp he with he | he
  · split at he
    · have := List.mem_singleton.mp he; subst this; exact ⟨rfl, rfl, by simp⟩
    · cases he
  · exact (mem_rowmts e he).2
theorem goals_mem : ∀ (gs : List Gl) (c i : Int), ∀ e ∈ goalMts c i gs, ∃ j : Nat, j < gs.length ∧ e.goal = i + j ∧ e.chunk = c + callsBefore gs j ∧ 1 ≤ e.c
  | [], c, i, e, he => by cases he
  | g :: r, c, i, e, he => by
    rcases List.mem_append.mp he with he | he
    · obtain ⟨h1, h2, h3⟩ := gmts_mem e he
      exact ⟨0, by simp, by (first | lia | omega), by simp [callsBefore, h2], h3⟩
    · obtain ⟨j, h1, h2, h3, h4⟩ := goals_mem r _ _ e he
      refine ⟨j + 1, by simpa using h1, by push_cast; (first | lia | omega), ?_, h4⟩
      rw [h3]; unfold callsBefore
      rw [List.take_succ_cons, List.filter_cons]
      cases g.isCall <;> simp; (first | lia | omega)
theorem mts_mem {as : List Tm} {gs : List Gl} : ∀ e ∈ mts as gs, -1 ≤ e.goal ∧ e.goal < gs.length ∧ e.chunk = callsBefore gs e.goal.toNat ∧ 1 ≤ e.c := by
  intro e he
  rcases List.mem_append.mp he with he | he
  · obtain ⟨_, h1, h2, h3⟩ := mem_rowmts e he
    refine ⟨by (first | lia | omega), by (first | lia | omega), ?_, h3⟩
    rw [h1, h2]; rfl
  · obtain ⟨j, h1, h2, h3, h4⟩ := goals_mem gs 0 0 e he
    refine ⟨by (first | lia | omega), by (first | lia | omega), ?_, h4⟩
    have : e.goal.toNat = j := by (first | lia | omega)
    rw [this, h3]; (first | lia | omega)
theorem goals_le : ∀ (gs : List Gl) (c i : Int), ∀ e ∈ goalMts c i gs, i ≤ e.goal := by
  intro gs c i e he
  obtain ⟨j, _, h, _⟩ := goals_mem gs c i e he; (first | lia | omega)
theorem goals_pw : ∀ (gs : List Gl) (c i : Int), (goalMts c i gs).Pairwise fun a b => a.goal ≤ b.goal
  | [], c, i => .nil
  | g :: r, c, i => by
    rw [goalMts, List.pairwise_append]
    refine ⟨List.pairwise_iff_forall_sublist.mpr fun {a b} h => ?_, goals_pw r _ _, fun a ha b hb => ?_⟩
    · have h1 := gmts_mem a (h.subset (by simp)); have h2 := gmts_mem b (h.subset (by simp)); (first | lia | omega)
    · have h1 := gmts_mem a ha; have h2 := goals_le _ _ _ b hb; (first | lia | omega)
theorem mts_pw (as : List Tm) (gs : List Gl) : (mts as gs).Pairwise fun a b => a.goal ≤ b.goal := by
  unfold mts
  rw [List.pairwise_append]
  refine ⟨List.pairwise_iff_forall_sublist.mpr fun {a b} h => ?_, goals_pw _ _ _, fun a ha b hb => ?_⟩
  · have h1 := mem_rowmts a (h.subset (by simp)); have h2 := mem_rowmts b (h.subset (by simp)); (first | lia | omega)
  · have h1 := mem_rowmts a ha; have h2 := goals_le _ _ _ b hb; (first | lia | omega)
end
section
/-! the places, key by key -/
noncomputable def getP (P : Pls) (k : Int) : List Pt := ((P.find? fun e => decide (e.1 = k)).map (·.2)).getD []
theorem getP_cons (e : Int × List Pt) (P : Pls) (k : Int) : getP (e :: P) k = if e.1 = k then e.2 else getP P k := by
  unfold getP
  rw [List.find?_cons]
  by_cases h : e.1 = k <;> simp [h]
theorem getP_app (P Q : Pls) (k : Int) (h : P.any (fun e => decide (e.1 = k)) = false) : getP (P ++ Q) k = getP Q k := by
  induction P with
  | nil => rfl
  | cons e P ih =>
    rw [List.any_cons, Bool.or_eq_false_iff] at h
    have : ¬ e.1 = k := by simpa using h.1
    rw [List.cons_append, getP_cons, if_neg this, ih h.2]
theorem getP_app_ne (P : Pls) (k j : Int) (x : List Pt) (h : j ≠ k) : getP (P ++ [(k, x)]) j = getP P j := by
  induction P with
  | nil => rw [List.nil_append, getP_cons, if_neg fun e => h e.symm]
  | cons e P ih => rw [List.cons_append, getP_cons, getP_cons, ih]
theorem getP_none (P : Pls) (k : Int) (h : P.any (fun e => decide (e.1 = k)) = false) : getP P k = [] := by
  have := getP_app P [] k h
  rw [List.append_nil] at this
  rw [this]; rfl
theorem getP_upd (P : Pls) (k j : Int) (p : Pt) : getP (P.map fun e => if e.1 = k then (e.1, e.2 ++ [p]) else e) j = if j = k ∧ P.any (fun e => decide (e.1 = k)) then getP P j ++ [p] else getP P j := by
  induction P with
  | nil => simp [getP]
  | cons e P ih =>
    rw [List.map_cons, getP_cons, getP_cons, ih, List.any_cons]
    by_cases h : e.1 = k
    · by_cases h2 : j = k
      · simp [h, h2]
      · have : ¬ k = j := fun e => h2 e.symm
        simp [h, h2, this]
    · have hd : decide (e.1 = k) = false := by simpa using h
      rw [if_neg h]
      by_cases h2 : e.1 = j
      · subst h2; simp [h]
      · rw [if_neg h2, if_neg h2]; simp only [hd, Bool.false_or]
theorem getP_addP (P : Pls) (k j : Int) (p : Pt) : getP (addP P k p) j = if j = k then getP P j ++ [p] else getP P j := by
  unfold addP
  cases h : P.any (fun e => decide (e.1 = k))
  · rw [if_neg (by decide)]
    by_cases hj : j = k
    · subst hj; rw [getP_app _ _ _ h, if_pos rfl, getP_none _ _ h, getP_cons, if_pos rfl]; rfl
    · rw [if_neg hj, getP_app_ne _ _ _ _ hj]
  · rw [if_pos rfl, getP_upd, h]; simp
theorem getP_addAll (k : Int) : ∀ (es : List (Int × Pt)) (P : Pls), getP (addAll P es) k = getP P k ++ evk k es
  | [], P => by simp [addAll, evk]
  | x :: es, P => by
    have := getP_addAll k es (addP P x.1 x.2)
    have e : addAll P (x :: es) = addAll (addP P x.1 x.2) es := rfl
    rw [e, this, getP_addP]
    by_cases h : x.1 = k
    · subst h; simp [evk]
    · have h2 : ¬ k = x.1 := fun e => h e.symm
      rw [if_neg h2]; unfold evk; rw [List.filter_cons, if_neg (by simpa using h)]
theorem addP_keys (P : Pls) (k : Int) (p : Pt) : (addP P k p).map (·.1) = if P.any (fun e => decide (e.1 = k)) then P.map (·.1) else P.map (·.1) ++ [k] := by
  unfold addP
  split
  · rw [List.map_map]; refine List.map_congr_left fun e _ => ?_
    by_cases h : e.1 = k <;> simp [h]
  · simp
theorem addP_nodup {P : Pls} {k : Int} {p : Pt} (h : (P.map (·.1)).Nodup) : ((addP P k p).map (·.1)).Nodup := by
  rw [addP_keys]
  split
  · exact h
  · rename_i hn
    rw [List.nodup_append]
    refine ⟨h, by simp, fun a ha b hb => ?_⟩
    rw [List.mem_singleton.mp hb]
    rintro rfl
    obtain ⟨e, he, e1⟩ := List.mem_map.mp ha
    exact hn (List.any_eq_true.mpr ⟨e, he, by simpa using e1⟩)
theorem addAll_nodup : ∀ (es : List (Int × Pt)) {P : Pls}, (P.map (·.1)).Nodup → ((addAll P es).map (·.1)).Nodup
  | [], P, h => h
  | x :: es, P, h => addAll_nodup es (P := addP P x.1 x.2) (addP_nodup h)
theorem getP_mem {P : Pls} (hn : (P.map (·.1)).Nodup) {e : Int × List Pt} (he : e ∈ P) : getP P e.1 = e.2 := by
  induction P with
  | nil => cases he
  | cons x P ih =>
    rw [getP_cons]
    rw [List.map_cons, List.nodup_cons] at hn
    rcases List.mem_cons.mp he with rfl | he
    · rw [if_pos rfl]
    · rw [if_neg (fun q : x.1 = e.1 => hn.1 (List.mem_map.mpr ⟨e, he, q.symm⟩)), ih hn.2 he]
theorem getP_key {P : Pls} {k : Int} (h : getP P k ≠ []) : k ∈ P.map (·.1) := by
  cases q : P.any (fun e => decide (e.1 = k))
  · exact absurd (getP_none _ _ q) h
  · obtain ⟨e, he, e1⟩ := List.any_eq_true.mp q
    exact List.mem_map.mpr ⟨e, he, by simpa using e1⟩
theorem places_nodup (as : List Tm) (gs : List Gl) : ((placesOf as gs).map (·.1)).Nodup := addAll_nodup _ .nil
theorem places_mem {as : List Tm} {gs : List Gl} (wf : WfK as gs) {e : Int × List Pt} (he : e ∈ placesOf as gs) : e.2 = (mtk e.1 (mts as gs)).flatMap spread ∧ e.2 ≠ [] := by
  have h1 := getP_mem (places_nodup as gs) he
  have h2 : getP (placesOf as gs) e.1 = _ := getP_addAll e.1 (allEvs as gs) []
  refine ⟨?_, addAll_ne _ (P := []) (by simp) e he⟩
  rw [← h1, h2, ev_spread wf]; rfl
theorem spread_ne {e : Ev} (h : 1 ≤ e.c) : (e.goal, e.w) ∈ spread e := by
  unfold spread; rw [List.mem_replicate]; exact ⟨by (first | lia | omega), rfl⟩
theorem places_key {as : List Tm} {gs : List Gl} (wf : WfK as gs) (k : Int) : k ∈ (placesOf as gs).map (·.1) ↔ mtk k (mts as gs) ≠ [] := by
  constructor
  · intro h
    obtain ⟨e, he, rfl⟩ := List.mem_map.mp h
    obtain ⟨h1, h2⟩ := places_mem wf he
    intro q; rw [q] at h1; exact h2 h1
  · intro h
    refine getP_key ?_
    have h2 : getP (placesOf as gs) k = _ := getP_addAll k (allEvs as gs) []
    rw [h2, ev_spread wf]
    obtain ⟨e, r, q⟩ : ∃ e r, mtk k (mts as gs) = e :: r := by cases q : mtk k (mts as gs) with | nil => exact absurd q h | cons e r => exact ⟨e, r, rfl⟩
    have he : e ∈ mts as gs := (List.mem_filter.mp (show e ∈ mtk k (mts as gs) by rw [q]; simp)).1
    intro q2
    rw [q] at q2
    have : (e.goal, e.w) ∈ getP [] k ++ List.flatMap spread (e :: r) := by
      simp only [getP, List.find?_nil, Option.map_none, Option.getD_none, List.nil_append, List.flatMap_cons, List.mem_append]
      exact .inl (spread_ne (mts_mem e he).2.2.2)
    rw [q2] at this; cases this

/-! what the fold of the meetings knows of a key -/
noncomputable def stepV (k : Int) (o : Option Vi) (e : Ev) : Option Vi :=
  let v := o.getD { newVi k e.w with fc := e.chunk }
  some { v with count := v.count + e.c, last := e.goal, lc := e.chunk }
theorem getV_cons (e : Int × Vi) (I : Infos) (k : Int) : getV (e :: I) k = if e.1 = k then some e.2 else getV I k := by
  unfold getV
  rw [List.find?_cons]
  by_cases h : e.1 = k <;> simp [h]
theorem getV_upd (I : Infos) (k j : Int) (f : Vi → Vi) : getV (updV I k f) j = if j = k then (getV I j).map f else getV I j := by
  unfold updV
  induction I with
  | nil => simp [getV]
  | cons e I ih =>
    rw [List.map_cons, getV_cons, getV_cons, ih]
    by_cases h : e.1 = k
    · by_cases h2 : j = k
      · simp [h, h2]
      · have : ¬ k = j := fun e => h2 e.symm
        simp [h, h2, this]
    · by_cases h2 : e.1 = j
      · subst h2; simp [h]
      · simp [h, h2]
theorem getV_none {I : Infos} {k : Int} (h : I.any (fun e => decide (e.1 = k)) = false) : getV I k = none := by
  induction I with
  | nil => rfl
  | cons e I ih =>
    rw [List.any_cons, Bool.or_eq_false_iff] at h
    have : ¬ e.1 = k := by simpa using h.1
    rw [getV_cons, if_neg this, ih h.2]
theorem getV_some {I : Infos} {k : Int} (h : I.any (fun e => decide (e.1 = k)) = true) : ∃ v, getV I k = some v := by
  induction I with
  | nil => cases h
  | cons e I ih =>
    rw [getV_cons]
    by_cases q : e.1 = k
    · rw [if_pos q]; exact ⟨_, rfl⟩
    · rw [if_neg q]
      rw [List.any_cons, Bool.or_eq_true] at h
      rcases h with h | h
      · exact absurd (by simpa using h) q
      · exact ih h
theorem getV_snoc (I : Infos) (k j : Int) (v : Vi) (h : I.any (fun e => decide (e.1 = k)) = false) : getV (I ++ [(k, v)]) j = if j = k then some v else getV I j := by
  induction I with
  | nil => rw [List.nil_append, getV_cons]; by_cases q : j = k
           · subst q; simp
           · have : ¬ k = j := fun e => q e.symm
             simp [q, this]
  | cons e I ih =>
    rw [List.any_cons, Bool.or_eq_false_iff] at h
    have h1 : ¬ e.1 = k := by simpa using h.1
    rw [List.cons_append, getV_cons, getV_cons, ih h.2]
    by_cases q : e.1 = j
    · subst q; simp [h1]
    · simp [q]
theorem getV_meet (I : Infos) (e : Ev) (j : Int) : getV (oneMeet I e) j = if j = e.k then stepV e.k (getV I j) e else getV I j := by
  unfold oneMeet meetI
  rw [getV_upd]
  by_cases h : j = e.k
  · subst h
    rw [if_pos rfl, if_pos rfl]
    cases q : I.any (fun x => decide (x.1 = e.k))
    · rw [if_neg (by decide), getV_snoc _ _ _ _ q, if_pos rfl, getV_none q]; rfl
    · rw [if_pos rfl]
      obtain ⟨v, hv⟩ := getV_some q
      rw [hv]; rfl
  · rw [if_neg h, if_neg h]
    cases q : I.any (fun x => decide (x.1 = e.k))
    · rw [if_neg (by decide), getV_snoc _ _ _ _ q, if_neg h]
    · rw [if_pos rfl]
theorem getV_meets (k : Int) : ∀ (ms : List Ev) (I : Infos), getV (ms.foldl oneMeet I) k = (mtk k ms).foldl (stepV k) (getV I k)
  | [], I => rfl
  | e :: ms, I => by
    rw [List.foldl_cons, getV_meets k ms, getV_meet]
    unfold mtk
    rw [List.filter_cons]
    by_cases h : e.k = k
    · subst h; simp
    · have : ¬ k = e.k := fun q => h q.symm
      simp [h, this]
structure FoldIs (k : Int) (m : Ev) (r : List Ev) (v : Vi) : Prop where
  var : v.var = k
  kind : v.kind = Str.ofString "temp"
  slot : v.slot = 0
  first : v.first = m.w
  uns : v.uns = false
  count : v.count = ((m :: r).map (·.c)).sum
  fc : v.fc = m.chunk
  last : ∃ e ∈ m :: r, v.last = e.goal ∧ v.lc = e.chunk ∧ ∀ x ∈ m :: r, x.goal ≤ e.goal
theorem fold_is (k : Int) (m : Ev) : ∀ (r : List Ev), (m :: r).Pairwise (fun a b => a.goal ≤ b.goal) → ∃ v, (m :: r).foldl (stepV k) none = some v ∧ FoldIs k m r v := by
  intro r
  have key : ∀ (n : Nat) (r : List Ev), r.length = n → (m :: r).Pairwise (fun a b => a.goal ≤ b.goal) → ∃ v, (m :: r).foldl (stepV k) none = some v ∧ FoldIs k m r v := by
    intro n
    induction n with
    | zero =>
      intro r hr h
      have : r = [] := List.length_eq_zero_iff.mp hr
      subst this
      exact ⟨_, rfl, rfl, rfl, rfl, rfl, rfl, by simp [newVi], rfl, m, by simp, rfl, rfl, by simp⟩
    | succ n ih =>
      intro r hr h
      rcases snoc_cases r with rfl | ⟨r', e, rfl⟩
      · cases hr
      · rw [← List.cons_append] at h ⊢
        rw [List.pairwise_append] at h
        obtain ⟨h1, h2, h3⟩ := h
        obtain ⟨v, hv, F⟩ := ih r' (by simpa using hr) h1
        rw [List.foldl_append, hv]
        refine ⟨_, rfl, F.var, F.kind, F.slot, F.first, F.uns, ?_, F.fc, e, by simp, rfl, rfl, ?_⟩
        · show v.count + e.c = _
          rw [F.count, ← List.cons_append, List.map_append, List.sum_append_int]; simp
        · intro x hx
          rw [← List.cons_append] at hx
          rcases List.mem_append.mp hx with hx | hx
          · exact h3 x hx e (by simp)
          · rw [List.mem_singleton.mp hx]; exact Int.le_refl _
  exact key _ r rfl
theorem meet_keys {I : Infos} {e : Ev} (h : (I.map (·.1)).Nodup) : ((oneMeet I e).map (·.1)).Nodup ∧ ∀ j, j ∈ (oneMeet I e).map (·.1) ↔ j ∈ I.map (·.1) ∨ j = e.k := by
  have e1 : ∀ (I : Infos) (f : Vi → Vi), (updV I e.k f).map (·.1) = I.map (·.1) := by
    intro I f; unfold updV; rw [List.map_map]; refine List.map_congr_left fun x _ => ?_
    by_cases h : x.1 = e.k <;> simp [h]
  unfold oneMeet meetI
  rw [e1]
  split
  · rename_i q
    refine ⟨h, fun j => ⟨.inl, fun hj => hj.elim id fun hj => ?_⟩⟩
    obtain ⟨x, hx, e2⟩ := List.any_eq_true.mp q
    exact List.mem_map.mpr ⟨x, hx, by rw [hj]; simpa using e2⟩
  · rename_i q
    rw [List.map_append, List.nodup_append]
    refine ⟨⟨h, by simp, fun a ha b hb => ?_⟩, fun j => by simp⟩
    have : b = e.k := by simpa using hb
    rw [this]; rintro rfl
    obtain ⟨x, hx, e2⟩ := List.mem_map.mp ha
    exact q (List.any_eq_true.mpr ⟨x, hx, by simpa using e2⟩)
theorem meets_keys : ∀ (ms : List Ev) {I : Infos}, (I.map (·.1)).Nodup → ((ms.foldl oneMeet I).map (·.1)).Nodup ∧ ∀ j, j ∈ (ms.foldl oneMeet I).map (·.1) ↔ j ∈ I.map (·.1) ∨ mtk j ms ≠ []
  | [], I, h => ⟨h, fun j => by simp [mtk]⟩
  | e :: ms, I, h => by
    obtain ⟨h1, h2⟩ := meet_keys (e := e) h
    obtain ⟨h3, h4⟩ := meets_keys ms h1
    refine ⟨h3, fun j => (h4 j).trans ?_⟩
    rw [h2]
    unfold mtk
    rw [List.filter_cons]
    by_cases q : e.k = j
    · simp [q]
    · have : ¬ j = e.k := fun x => q x.symm
      simp [q, this]
end
section
theorem mem_spread {e : Ev} {p : Pt} (h : p ∈ spread e) : p = (e.goal, e.w) := (List.mem_replicate.mp h).2
theorem spread_cons {e : Ev} (h : 1 ≤ e.c) : ∃ q, spread e = (e.goal, e.w) :: q ∧ ∀ p ∈ q, p = (e.goal, e.w) := by
  obtain ⟨n, hn⟩ : ∃ n, e.c.toNat = n + 1 := ⟨e.c.toNat - 1, by (first | lia | omega)⟩
  refine ⟨List.replicate n (e.goal, e.w), ?_, fun p hp => (List.mem_replicate.mp hp).2⟩
  unfold spread; rw [hn]; rfl
theorem fold_first (p : Pt) : ∀ q : List Pt, (∀ x ∈ q, p.1 ≤ x.1) → q.foldl (fun (b : Pt) x => if x.1 < b.1 then x else b) p = p
  | [], _ => rfl
  | x :: q, h => by
    have := h x (List.mem_cons_self ..)
    rw [List.foldl_cons, if_neg (by (first | lia | omega)), fold_first p q fun y hy => h y (.tail _ hy)]
theorem first_is {m : Ev} {r : List Ev} (hc : ∀ e ∈ m :: r, 1 ≤ e.c) (hp : (m :: r).Pairwise fun a b => a.goal ≤ b.goal) : firstWord ((m :: r).flatMap spread) = m.w := by
  obtain ⟨q, hq, hq2⟩ := spread_cons (hc m (List.mem_cons_self ..))
  rw [List.flatMap_cons, hq, List.cons_append]
  show ((q ++ r.flatMap spread).foldl _ (m.goal, m.w)).2 = _
  rw [fold_first]
  intro x hx
  rcases List.mem_append.mp hx with hx | hx
  · rw [hq2 x hx]; exact Int.le_refl _
  · obtain ⟨e, he, hx⟩ := List.mem_flatMap.mp hx
    rw [mem_spread hx]; exact (List.pairwise_cons.mp hp).1 e he
theorem len_is : ∀ {l : List Ev}, (∀ e ∈ l, 1 ≤ e.c) → ((l.flatMap spread).length : Int) = (l.map (·.c)).sum
  | [], _ => rfl
  | e :: l, h => by
    have h1 := h e (List.mem_cons_self ..)
    have ih := len_is fun x hx => h x (.tail _ hx)
    rw [List.flatMap_cons, List.length_append, List.map_cons, List.sum_cons]
    have : (spread e).length = e.c.toNat := by simp [spread]
    rw [this]; (first | lia | omega)
theorem max_is {l : List Ev} {e : Ev} (he : e ∈ l) (hc : 1 ≤ e.c) (hm : ∀ x ∈ l, x.goal ≤ e.goal) : isMax (l.flatMap spread) e.goal = true := by
  unfold isMax
  rw [Bool.and_eq_true]
  refine ⟨List.any_eq_true.mpr ⟨(e.goal, e.w), List.mem_flatMap.mpr ⟨e, he, spread_ne hc⟩, by simp⟩, List.all_eq_true.mpr fun p hp => ?_⟩
  obtain ⟨x, hx, hp⟩ := List.mem_flatMap.mp hp
  rw [mem_spread hp]; simpa using hm x hx
theorem isMax_ge {ps : List Pt} {M : Int} (h : isMax ps M = true) : (∃ p ∈ ps, p.1 = M) ∧ ∀ p ∈ ps, p.1 ≤ M := by
  unfold isMax at h
  rw [Bool.and_eq_true, List.any_eq_true, List.all_eq_true] at h
  obtain ⟨⟨p, hp, e⟩, h⟩ := h
  exact ⟨⟨p, hp, by simpa using e⟩, fun q hq => by simpa using h q hq⟩
theorem isMax_one {ps : List Pt} {M N : Int} (h : isMax ps M = true) (h' : isMax ps N = true) : M = N := by
  obtain ⟨⟨p, hp, e⟩, h1⟩ := isMax_ge h
  obtain ⟨⟨q, hq, e'⟩, h2⟩ := isMax_ge h'
  have := h1 q hq; have := h2 p hp; (first | lia | omega)
theorem later_is {ps : List Pt} {M i : Int} (h : isMax ps M = true) : (ps.any fun p => decide (i < p.1)) = decide (i < M) := by
  obtain ⟨⟨p, hp, e⟩, h1⟩ := isMax_ge h
  by_cases q : i < M
  · rw [decide_eq_true q]; exact List.any_eq_true.mpr ⟨p, hp, by simp; (first | lia | omega)⟩
  · rw [decide_eq_false q]; exact List.any_eq_false.mpr fun x hx => by have := h1 x hx; simp; (first | lia | omega)

/-! a call between first and last place -/
theorem calls_le (gs : List Gl) {a b : Nat} (h : a ≤ b) : callsBefore gs b = callsBefore gs a + ((((gs.take b).drop a).filter Gl.isCall).length : Int) := by
  unfold callsBefore
  have : gs.take b = gs.take a ++ (gs.take b).drop a := by
    conv => lhs; rw [← List.take_append_drop a (gs.take b)]
    rw [List.take_take, Nat.min_eq_left h]
  rw [this, List.filter_append, List.length_append]
  have e : List.drop a (List.take a gs ++ List.drop a (List.take b gs)) = List.drop a (List.take b gs) := by rw [← this]
  rw [e]; (first | lia | omega)
theorem calls_lt (gs : List Gl) (a b : Nat) : callsBefore gs a < callsBefore gs b ↔ ∃ i, a ≤ i ∧ i < b ∧ ((gs[i]?).map Gl.isCall).getD false = true := by
  constructor
  · intro h
    have hab : a ≤ b := by
      rcases Nat.le_total a b with q | q
      · exact q
      · have := calls_le gs q; (first | lia | omega)
    have := calls_le gs hab
    have : 0 < (((gs.take b).drop a).filter Gl.isCall).length := by (first | lia | omega)
    obtain ⟨g, hg⟩ := List.exists_mem_of_length_pos this
    rw [List.mem_filter] at hg
    obtain ⟨j, hj⟩ := List.mem_iff_getElem?.mp hg.1
    rw [List.getElem?_drop, List.getElem?_take] at hj
    split at hj
    · refine ⟨a + j, by (first | lia | omega), by assumption, ?_⟩
      rw [hj]; exact hg.2
    · cases hj
  · rintro ⟨i, h1, h2, h3⟩
    have := calls_le gs (show a ≤ b by (first | lia | omega))
    obtain ⟨g, hg, hc⟩ : ∃ g, gs[i]? = some g ∧ g.isCall = true := by
      cases q : gs[i]? with
      | none => rw [q] at h3; cases h3
      | some g => rw [q] at h3; exact ⟨g, rfl, h3⟩
    have : g ∈ ((gs.take b).drop a).filter Gl.isCall := by
      rw [List.mem_filter]
      refine ⟨List.mem_iff_getElem?.mpr ⟨i - a, ?_⟩, hc⟩
      rw [List.getElem?_drop, List.getElem?_take, if_pos (by (first | lia | omega)), show a + (i - a) = i by (first | lia | omega)]; exact hg
    have := List.length_pos_of_mem this
    (first | lia | omega)
theorem cross_is {gs : List Gl} {ps : List Pt} {m M : Int} (h1 : ∃ p ∈ ps, p.1 = m) (h2 : ∀ p ∈ ps, m ≤ p.1) (h3 : isMax ps M = true) (h0 : -1 ≤ m) (hM : M < gs.length) :
    crosses gs ps = decide (callsBefore gs m.toNat < callsBefore gs M.toNat) := by
  obtain ⟨p, hp, e⟩ := h1
  obtain ⟨⟨q, hq, e'⟩, h4⟩ := isMax_ge h3
  have hmM := h4 p hp
  rw [Bool.eq_iff_iff, decide_eq_true_iff, calls_lt]
  unfold crosses
  rw [List.any_eq_true]
  constructor
  · rintro ⟨i, hi, h⟩
    have hi := List.mem_range.mp hi
    unfold crossAt at h
    rw [Bool.and_eq_true, Bool.and_eq_true, List.any_eq_true, List.any_eq_true] at h
    obtain ⟨⟨c1, x, hx, c2⟩, y, hy, c3⟩ := h
    have := h2 x hx; have := h4 y hy
    have c2 : x.1 ≤ (i : Int) := by simpa using c2
    have c3 : (i : Int) < y.1 := by simpa using c3
    exact ⟨i, by (first | lia | omega), by (first | lia | omega), c1⟩
  · rintro ⟨i, a1, a2, a3⟩
    refine ⟨i, List.mem_range.mpr (by (first | lia | omega)), ?_⟩
    unfold crossAt
    rw [Bool.and_eq_true, Bool.and_eq_true, List.any_eq_true, List.any_eq_true]
    exact ⟨⟨a3, p, hp, by simp; (first | lia | omega)⟩, q, hq, by simp; (first | lia | omega)⟩

/-- all that the check asks of a variable, from the meetings -/
structure KeyFacts (gs : List Gl) (k : Int) (ps : List Pt) (v : Vi) : Prop where
  var : v.var = k
  first : v.first = firstWord ps
  mx : isMax ps v.last = true
  cnt : (ps.length : Int) = v.count
  crs : crosses gs ps = decide (v.fc < v.lc)
  slot : v.slot = 0
  uns : v.uns = false
theorem key_facts {as : List Tm} {gs : List Gl} (wf : WfK as gs) {e : Int × List Pt} (he : e ∈ placesOf as gs) : ∃ v, getV (infos0 as gs) e.1 = some v ∧ KeyFacts gs e.1 e.2 v := by
  obtain ⟨h1, h2⟩ := places_mem wf he
  cases q : mtk e.1 (mts as gs) with
  | nil => rw [q] at h1; exact absurd h1 h2
  | cons m r =>
    rw [q] at h1
    have hm : ∀ x ∈ m :: r, x ∈ mts as gs := fun x hx => (List.mem_filter.mp (show x ∈ mtk e.1 (mts as gs) by rw [q]; exact hx)).1
    have hc : ∀ x ∈ m :: r, 1 ≤ x.c := fun x hx => (mts_mem x (hm x hx)).2.2.2
    have hp : (m :: r).Pairwise fun a b => a.goal ≤ b.goal := by rw [← q]; exact (mts_pw as gs).filter _
    obtain ⟨v, hv, F⟩ := fold_is e.1 m r hp
    have hg : getV (infos0 as gs) e.1 = some v := by
      have : getV (infos0 as gs) e.1 = _ := getV_meets e.1 (mts as gs) []
      rw [this, q]; exact hv
    obtain ⟨x, hx, l1, l2, l3⟩ := F.last
    have hmx : isMax e.2 v.last = true := by rw [h1, l1]; exact max_is hx (hc x hx) l3
    refine ⟨v, hg, F.var, by rw [h1, first_is hc hp]; exact F.first, hmx, by rw [h1, len_is hc, F.count], ?_, F.slot, F.uns⟩
    have b1 := mts_mem m (hm m (List.mem_cons_self ..))
    have b2 := mts_mem x (hm x hx)
    rw [F.fc, l2, b1.2.2.1, b2.2.2.1, ← l1]
    refine cross_is ⟨(m.goal, m.w), ?_, rfl⟩ (fun p hp' => ?_) hmx b1.1 (by (first | lia | omega))
    · rw [h1, List.flatMap_cons]; exact List.mem_append_left _ (spread_ne (hc m (List.mem_cons_self ..)))
    · rw [h1] at hp'
      obtain ⟨y, hy, hp'⟩ := List.mem_flatMap.mp hp'
      rw [mem_spread hp']
      rcases List.mem_cons.mp hy with rfl | hy
      · exact Int.le_refl _
      · exact (List.pairwise_cons.mp hp).1 y hy
theorem infos0_nodup (as : List Tm) (gs : List Gl) : ((infos0 as gs).map (·.1)).Nodup := (meets_keys (mts as gs) (I := []) .nil).1
theorem infos0_keys {as : List Tm} {gs : List Gl} (wf : WfK as gs) (k : Int) : k ∈ (infos0 as gs).map (·.1) ↔ k ∈ (placesOf as gs).map (·.1) := by
  rw [places_key wf]
  refine ((meets_keys (mts as gs) (I := []) .nil).2 k).trans ?_
  simp
end
section
/-! the order of the slots -/
noncomputable def isPermB (I : Infos) (k : Int) : Bool := ((getV I k).map fun v => v.kind == Str.ofString "perm").getD false
noncomputable def vOf (I : Infos) (k : Int) : Vi := (getV I k).getD (newVi 0 (Str.ofString ""))
noncomputable def ordR (I : Infos) (a b : Int) : Prop := lastOf I b < lastOf I a ∨ (lastOf I a = lastOf I b ∧ a < b)
theorem downTo_is (I : Infos) (x : Int) (o : List Int) : ∀ a, (∀ i, downTo I x o a ≤ i → i < a → lastOf I (o.getD i 0) < x) ∧ (downTo I x o a = 0 ∨ ¬ lastOf I (o.getD (downTo I x o a - 1) 0) < x)
  | 0 => ⟨fun i _ h => absurd h (Nat.not_lt_zero _), .inl rfl⟩
  | a + 1 => by
    unfold downTo
    split
    · rename_i h
      obtain ⟨h1, h2⟩ := downTo_is I x o a
      refine ⟨fun i h3 h4 => ?_, h2⟩
      by_cases q : i = a
      · subst q; exact h
      · exact h1 i h3 (by (first | lia | omega))
    · rename_i h
      exact ⟨fun i h3 h4 => by (first | lia | omega), .inr (by simpa using h)⟩
theorem getD_of {o : List Int} {i : Nat} {a : Int} (h : o[i]? = some a) : o.getD i 0 = a := by rw [List.getD_eq_getElem?_getD, h]; rfl
theorem pw_get {R : Int → Int → Prop} {o : List Int} (h : o.Pairwise R) {i j : Nat} {a b : Int} (hi : o[i]? = some a) (hj : o[j]? = some b) (hij : i < j) : R a b := by
  have h1 := List.getElem?_eq_some_iff.mp hi
  have h2 := List.getElem?_eq_some_iff.mp hj
  obtain ⟨l1, rfl⟩ := h1
  obtain ⟨l2, rfl⟩ := h2
  exact List.pairwise_iff_getElem.mp h i j l1 l2 hij
theorem ins_is {I : Infos} {o : List Int} {k : Int} (h : o.Pairwise (ordR I)) (hk : ∀ a ∈ o, a < k) :
    (insOrd I o k).Pairwise (ordR I) ∧ (insOrd I o k).Perm (o ++ if isPermB I k then [k] else []) := by
  unfold insOrd
  show (if isPermB I k = true then _ else _ : List Int).Pairwise _ ∧ _
  cases q : isPermB I k
  · have q' : ((getV I k).map fun v => v.kind == Str.ofString "perm").getD false = false := q
    rw [if_neg (by decide), q', if_neg (by decide)]
    exact ⟨h, by simp⟩
  · have q' : ((getV I k).map fun v => v.kind == Str.ofString "perm").getD false = true := q
    rw [if_pos rfl, q', if_pos rfl, if_pos rfl]
    dsimp only
    obtain ⟨d1, d2⟩ := downTo_is I (lastOf I k) o o.length
    have d3 := downTo_le I (lastOf I k) o o.length
    generalize downTo I (lastOf I k) o o.length = p at *
    have hpw : (o.take p ++ o.drop p).Pairwise (ordR I) := by rw [List.take_append_drop]; exact h
    rw [List.pairwise_append] at hpw
    obtain ⟨p1, p2, p3⟩ := hpw
    have ht : ∀ a ∈ o.take p, lastOf I k ≤ lastOf I a := by
      intro a ha
      obtain ⟨i, hi⟩ := List.mem_iff_getElem?.mp ha
      rw [List.getElem?_take] at hi
      split at hi
      · rename_i hip
        rcases d2 with d2 | d2
        · (first | lia | omega)
        · obtain ⟨b, hb⟩ : ∃ b, o[p - 1]? = some b := ⟨_, List.getElem?_eq_getElem (by (first | lia | omega))⟩
          rw [getD_of hb] at d2
          by_cases e : i = p - 1
          · rw [e, hb] at hi; cases hi; (first | lia | omega)
          · rcases pw_get h hi hb (by (first | lia | omega)) with q | q <;> (first | lia | omega)
      · cases hi
    have hd : ∀ b ∈ o.drop p, lastOf I b < lastOf I k := by
      intro b hb
      obtain ⟨i, hi⟩ := List.mem_iff_getElem?.mp hb
      rw [List.getElem?_drop] at hi
      have := d1 (p + i) (by (first | lia | omega)) (by have := (List.getElem?_eq_some_iff.mp hi).1; (first | lia | omega))
      rw [getD_of hi] at this; exact this
    refine ⟨?_, ?_⟩
    · rw [List.pairwise_append, List.pairwise_cons]
      refine ⟨p1, ⟨fun b hb => .inl (hd b hb), p2⟩, fun a ha b hb => ?_⟩
      rcases List.mem_cons.mp hb with rfl | hb
      · have h1 := ht a ha; have h2 := hk a (List.mem_of_mem_take ha)
        by_cases e : lastOf I b < lastOf I a
        · exact .inl e
        · exact .inr ⟨by (first | lia | omega), h2⟩
      · exact p3 a ha b hb
    · refine List.perm_middle.trans ?_
      rw [List.take_append_drop]
      exact (List.perm_append_singleton k o).symm
theorem ord_is {I : Infos} : ∀ {ks o : List Int}, ks.Pairwise (· < ·) → o.Pairwise (ordR I) → (∀ a ∈ o, ∀ k ∈ ks, a < k) → (ks.foldl (insOrd I) o).Pairwise (ordR I) ∧ (ks.foldl (insOrd I) o).Perm (o ++ ks.filter (isPermB I))
  | [], o, _, h, _ => ⟨h, by simp⟩
  | k :: ks, o, hk, h, hm => by
    rw [List.pairwise_cons] at hk
    obtain ⟨h1, h2⟩ := ins_is (k := k) h fun a ha => hm a ha k (List.mem_cons_self ..)
    obtain ⟨h3, h4⟩ := ord_is hk.2 h1 fun a ha j hj => by
      rcases insOrd_mem ha with ha | rfl
      · exact hm a ha j (.tail _ hj)
      · exact hk.1 j hj
    refine ⟨h3, h4.trans ((h2.append_right _).trans ?_)⟩
    rw [List.filter_cons, List.append_assoc]
    refine List.Perm.append_left _ ?_
    cases isPermB I k <;> exact .refl _
theorem isort_strict {l : List Int} (h : l.Nodup) : (isort l).Pairwise (· < ·) := by
  have h1 := isort_sorted l
  have h2 : (isort l).Nodup := (isort_perm l).nodup_iff.mpr h
  refine (h1.and h2).imp fun {a b} ⟨x, y⟩ => by (first | lia | omega)
theorem order_is {I : Infos} (h : (I.map (·.1)).Nodup) : (slotOrder I).Pairwise (ordR I) ∧ (slotOrder I).Perm ((I.map (·.1)).filter (isPermB I)) := by
  obtain ⟨h1, h2⟩ := ord_is (I := I) (isort_strict h) .nil (fun a ha => by cases ha)
  exact ⟨h1, h2.trans ((isort_perm _).filter _)⟩

/-! the slots set -/
noncomputable def setF (i : Nat) (v : Vi) : Vi := { v with slot := (i : Int) + 1, uns := v.first == Str.ofString "goal_arg" }
theorem slots_no {k : Int} : ∀ (l : List (Int × Nat)) (I : Infos), k ∉ l.map (·.1) → getV (l.foldl setSlot I) k = getV I k
  | [], I, _ => rfl
  | x :: l, I, h => by
    rw [List.map_cons, List.mem_cons, not_or] at h
    rw [List.foldl_cons, slots_no l _ h.2]
    unfold setSlot; rw [getV_upd, if_neg h.1]
theorem slots_yes {k : Int} {i : Nat} : ∀ (l : List (Int × Nat)) (I : Infos), (l.map (·.1)).Nodup → (k, i) ∈ l → getV (l.foldl setSlot I) k = (getV I k).map (setF i)
  | [], I, _, h => by cases h
  | x :: l, I, hn, h => by
    rw [List.map_cons, List.nodup_cons] at hn
    rw [List.foldl_cons]
    rcases List.mem_cons.mp h with rfl | h
    · rw [slots_no l _ hn.1]
      unfold setSlot; rw [getV_upd, if_pos rfl]; rfl
    · rw [slots_yes l _ hn.2 h]
      have : ¬ k = x.1 := fun q => hn.1 (q ▸ List.mem_map.mpr ⟨_, h, rfl⟩)
      unfold setSlot; rw [getV_upd, if_neg this]
theorem getV_kinds (I : Infos) (k : Int) : getV (withKinds I) k = (getV I k).map fun v => { v with kind := kindOf v } := by
  unfold withKinds
  induction I with
  | nil => rfl
  | cons e I ih =>
    rw [List.map_cons, getV_cons, getV_cons, ih]
    by_cases h : e.1 = k <;> simp [h]
theorem slots_keys : ∀ (l : List (Int × Nat)) (I : Infos), (l.foldl setSlot I).map (·.1) = I.map (·.1)
  | [], I => rfl
  | x :: l, I => by
    rw [List.foldl_cons, slots_keys l]
    unfold setSlot updV
    rw [List.map_map]; refine List.map_congr_left fun e _ => ?_
    by_cases h : e.1 = x.1 <;> simp [h]
theorem cls_keys (as : List Tm) (gs : List Gl) : (clsInfos as gs).map (·.1) = (infos0 as gs).map (·.1) := by
  unfold clsInfos withSlots
  rw [slots_keys]; unfold withKinds; rw [List.map_map]; rfl
theorem kinds_nodup (as : List Tm) (gs : List Gl) : ((withKinds (infos0 as gs)).map (·.1)).Nodup := by
  have : (withKinds (infos0 as gs)).map (·.1) = (infos0 as gs).map (·.1) := by unfold withKinds; rw [List.map_map]; rfl
  rw [this]; exact infos0_nodup as gs
theorem order_nodup {I : Infos} (h : (I.map (·.1)).Nodup) : (slotOrder I).Nodup := (order_is h).2.nodup_iff.mpr (h.filter _)
theorem permsOf_eq (P : Pls) (I : Infos) : permsOf P I = ((P.map (·.1)).filter (isPermB I)).map (vOf I) := by
  unfold permsOf
  induction P with
  | nil => rfl
  | cons e P ih =>
    rw [List.filterMap_cons, List.map_cons, List.filter_cons]
    unfold isPermB vOf at *
    cases q : getV I e.1 with
    | none => simpa using ih
    | some v =>
      by_cases q2 : v.kind = Str.ofString "perm"
      · simp [q2, q]; simpa using ih
      · simp [q2, q]; simpa using ih
/-- what classify's infos say of a key -/
theorem cls_get {as : List Tm} {gs : List Gl} (wf : WfK as gs) {e : Int × List Pt} (he : e ∈ placesOf as gs) : ∃ v, KeyFacts gs e.1 e.2 v ∧ getV (withKinds (infos0 as gs)) e.1 = some { v with kind := kindOf v } ∧
    ((kindOf v ≠ Str.ofString "perm" ∧ e.1 ∉ clsOrder as gs ∧ getV (clsInfos as gs) e.1 = some { v with kind := kindOf v }) ∨
     (kindOf v = Str.ofString "perm" ∧ ∃ i, (clsOrder as gs)[i]? = some e.1 ∧ getV (clsInfos as gs) e.1 = some (setF i { v with kind := kindOf v }))) := by
  obtain ⟨v, hv, F⟩ := key_facts wf he
  have hK : getV (withKinds (infos0 as gs)) e.1 = some { v with kind := kindOf v } := by rw [getV_kinds, hv]; rfl
  refine ⟨v, F, hK, ?_⟩
  have hnk := kinds_nodup as gs
  have hmem : e.1 ∈ (withKinds (infos0 as gs)).map (·.1) := by
    have : (withKinds (infos0 as gs)).map (·.1) = (infos0 as gs).map (·.1) := by unfold withKinds; rw [List.map_map]; rfl
    rw [this, infos0_keys wf]; exact List.mem_map.mpr ⟨e, he, rfl⟩
  have hiff : e.1 ∈ clsOrder as gs ↔ kindOf v = Str.ofString "perm" := by
    unfold clsOrder
    rw [(order_is hnk).2.mem_iff, List.mem_filter]
    unfold isPermB; rw [hK]
    constructor
    · intro h; simpa using h.2
    · intro h; exact ⟨hmem, by simpa using h⟩
  have hz : (clsOrder as gs).zipIdx.map (·.1) = clsOrder as gs := by simp
  by_cases q : kindOf v = Str.ofString "perm"
  · right
    refine ⟨q, ?_⟩
    obtain ⟨i, hi⟩ := List.mem_iff_getElem?.mp (hiff.mpr q)
    refine ⟨i, hi, ?_⟩
    unfold clsInfos withSlots
    rw [slots_yes (i := i) _ _ (by have := order_nodup hnk; unfold clsOrder at hz; rw [hz]; exact this) (by rw [List.mk_mem_zipIdx_iff_getElem?]; exact hi), hK]; rfl
  · left
    have hno : e.1 ∉ clsOrder as gs := fun h => q (hiff.mp h)
    refine ⟨q, hno, ?_⟩
    unfold clsInfos withSlots
    rw [slots_no _ _ (by unfold clsOrder at hz hno; rw [hz]; exact hno), hK]
end
section
theorem perm_of {a b : List Int} (ha : a.Nodup) (hb : b.Nodup) (h : ∀ x, x ∈ a ↔ x ∈ b) : a.Perm b := (List.perm_ext_iff_of_nodup ha hb).mpr h
theorem cls_perm_keys {as : List Tm} {gs : List Gl} (wf : WfK as gs) : ((placesOf as gs).map (·.1)).Perm ((clsInfos as gs).map (·.1)) := by
  rw [cls_keys]
  exact perm_of (places_nodup as gs) (infos0_nodup as gs) fun x => (infos0_keys wf x).symm
theorem ord_get {as : List Tm} {gs : List Gl} (wf : WfK as gs) {i : Nat} {k : Int} (h : (clsOrder as gs)[i]? = some k) : ∃ e ∈ placesOf as gs, ∃ v, e.1 = k ∧ KeyFacts gs e.1 e.2 v ∧ kindOf v = Str.ofString "perm" ∧
    getV (clsInfos as gs) k = some (setF i { v with kind := kindOf v }) ∧ lastOf (withKinds (infos0 as gs)) k = v.last ∧ lastOf (clsInfos as gs) k = v.last := by
  have hm := mem_slotOrder (List.mem_of_getElem? h)
  have e1 : (withKinds (infos0 as gs)).map (·.1) = (infos0 as gs).map (·.1) := by unfold withKinds; rw [List.map_map]; rfl
  rw [e1, infos0_keys wf] at hm
  obtain ⟨e, he, rfl⟩ := List.mem_map.mp hm
  obtain ⟨v, F, hK, q | q⟩ := cls_get wf he
  · exact absurd (List.mem_of_getElem? h) q.2.1
  · obtain ⟨q1, j, q2, q3⟩ := q
    have hij : j = i := by
      have hn := order_nodup (kinds_nodup as gs)
      have l1 := (List.getElem?_eq_some_iff.mp q2).1
      exact (List.getElem?_inj l1 hn).mp (q2.trans h.symm)
    subst hij
    exact ⟨e, he, v, rfl, F, q1, q3, by unfold lastOf; rw [hK]; rfl, by unfold lastOf; rw [q3]; rfl⟩
theorem perms_perm {as : List Tm} {gs : List Gl} (wf : WfK as gs) : (permsOf (placesOf as gs) (clsInfos as gs)).Perm ((clsOrder as gs).map (vOf (clsInfos as gs))) := by
  rw [permsOf_eq]
  refine List.Perm.map _ ?_
  have e1 : (withKinds (infos0 as gs)).map (·.1) = (infos0 as gs).map (·.1) := by unfold withKinds; rw [List.map_map]; rfl
  refine List.Perm.trans ?_ (order_is (kinds_nodup as gs)).2.symm
  rw [e1]
  have hp : ((placesOf as gs).map (·.1)).Perm ((infos0 as gs).map (·.1)) := perm_of (places_nodup as gs) (infos0_nodup as gs) fun x => (infos0_keys wf x).symm
  refine List.Perm.trans (List.Perm.of_eq ?_) (hp.filter _)
  refine List.filter_congr fun k hk => ?_
  obtain ⟨e, he, rfl⟩ := List.mem_map.mp hk
  obtain ⟨v, F, hK, q | q⟩ := cls_get wf he
  · unfold isPermB; rw [q.2.2, hK]
  · obtain ⟨_, j, _, q3⟩ := q
    unfold isPermB; rw [q3, hK]; rfl
theorem cross_one {gs : List Gl} {ps : List Pt} (h : ps.length = 1) : crosses gs ps = false := by
  obtain ⟨p, rfl⟩ := List.length_eq_one_iff.mp h
  unfold crosses
  rw [List.any_eq_false]
  intro i _
  unfold crossAt
  by_cases q : p.1 ≤ (i : Int) <;> simp [q]
theorem chkVar_np {gs : List Gl} {k : Int} {ps : List Pt} {v : Vi} (F : KeyFacts gs k ps v) (h : kindOf v ≠ Str.ofString "perm") : chkVar gs k ps { v with kind := kindOf v } = true := by
  have hc := F.crs
  have hn := F.cnt
  unfold chkVar
  dsimp only
  rw [F.var, F.first, F.mx, F.slot, F.uns]
  unfold kindOf at h ⊢
  by_cases q : v.count = 1
  · have hl : ps.length = 1 := by (first | lia | omega)
    rw [if_pos q, cross_one hl, hl]
    have d1 : ¬ Str.ofString "void" = Str.ofString "perm" := by decide
    simp [d1]
  · have hl : ¬ ((ps.length : Int) = 1) := by (first | lia | omega)
    rw [if_neg q] at h ⊢
    by_cases q2 : v.fc < v.lc
    · rw [if_pos q2] at h; exact absurd rfl h
    · rw [if_neg q2, hc, decide_eq_false q2]
      have : ((ps.length : Int) == 1) = false := by simpa using hl
      rw [this]
      have d1 : ¬ Str.ofString "temp" = Str.ofString "perm" := by decide
      have d2 : ¬ Str.ofString "temp" = Str.ofString "void" := by decide
      simp [d1, d2]
theorem chkVar_p {gs : List Gl} {k : Int} {ps : List Pt} {v : Vi} (i : Nat) (F : KeyFacts gs k ps v) (h : kindOf v = Str.ofString "perm") : chkVar gs k ps (setF i { v with kind := kindOf v }) = true := by
  have hc := F.crs
  have hn := F.cnt
  have h' := h
  unfold kindOf at h'
  by_cases q : v.count = 1
  · rw [if_pos q] at h'; exact absurd h' (by decide)
  · rw [if_neg q] at h'
    have hl : ((ps.length : Int) == 1) = false := by simp; (first | lia | omega)
    by_cases q2 : v.fc < v.lc
    · unfold chkVar setF
      dsimp only
      rw [F.var, F.first, F.mx, h, hl, hc, decide_eq_true q2]
      simp; decide
    · rw [if_neg q2] at h'; exact absurd h' (by decide)
theorem take_is {p : Int → Bool} : ∀ {l : List Int}, l.Pairwise (fun a b => p b = true → p a = true) → ∀ {i : Nat} {k : Int}, l[i]? = some k → (p k = true ↔ i < (l.takeWhile p).length)
  | [], _, i, k, h => by cases h
  | x :: l, hp, i, k, h => by
    rw [List.pairwise_cons] at hp
    rw [List.takeWhile_cons]
    cases hx : p x
    · rw [if_neg (by decide)]
      rcases i with _ | i
      · cases h; simp [hx]
      · rw [List.getElem?_cons_succ] at h
        have := hp.1 k (List.mem_of_getElem? h)
        rw [hx] at this
        simp
        cases q : p k
        · rfl
        · exact absurd (this q) (by decide)
    · rw [if_pos rfl]
      rcases i with _ | i
      · cases h; simp [hx]
      · rw [List.getElem?_cons_succ] at h
        rw [take_is hp.2 h]; simp
theorem live_iff {as : List Tm} {gs : List Gl} (wf : WfK as gs) {i j : Nat} {k : Int} (h : (clsOrder as gs)[i]? = some k) : ((j : Int) < lastOf (clsInfos as gs) k) ↔ (i : Int) + 1 ≤ liveAt (clsInfos as gs) (clsOrder as gs) j := by
  have hp : (clsOrder as gs).Pairwise fun a b => (decide ((j : Int) < lastOf (clsInfos as gs) b) = true → decide ((j : Int) < lastOf (clsInfos as gs) a) = true) := by
    have h0 := (order_is (kinds_nodup as gs)).1
    refine List.pairwise_iff_forall_sublist.mpr fun {a b} hs => ?_
    have h1 := List.pairwise_iff_forall_sublist.mp h0 hs
    obtain ⟨i1, g1⟩ := List.mem_iff_getElem?.mp (hs.subset (show a ∈ [a, b] by simp))
    obtain ⟨i2, g2⟩ := List.mem_iff_getElem?.mp (hs.subset (show b ∈ [a, b] by simp))
    obtain ⟨_, _, _, _, _, _, _, a1, a2⟩ := ord_get wf g1
    obtain ⟨_, _, _, _, _, _, _, b1, b2⟩ := ord_get wf g2
    rw [a2, b2, decide_eq_true_iff, decide_eq_true_iff]
    rcases h1 with h1 | h1 <;> rw [a1, b1] at h1 <;> (first | lia | omega)
  have := take_is hp h
  unfold liveAt
  rw [decide_eq_true_iff] at this
  rw [this]; (first | lia | omega)
theorem plain1 {as : List Tm} {gs : List Gl} (wf : WfK as gs) : chk as gs (clsInfos as gs) (chunkNums 0 gs) (clsLive as gs) (clsNeeds gs) ((clsOrder as gs).length : Int) = true := by
  have hP := perms_perm wf
  have hlen : (permsOf (placesOf as gs) (clsInfos as gs)).length = (clsOrder as gs).length := by rw [hP.length_eq, List.length_map]
  unfold chk
  simp only [Bool.and_eq_true]
  refine ⟨⟨⟨⟨⟨?_, ?_⟩, ?_⟩, ?_⟩, ?_⟩, ?_⟩
  · rw [decide_eq_true_iff]
    exact isort_eq ((isort_perm _).trans (cls_perm_keys wf)) (isort_sorted _)
  · rw [List.all_eq_true]
    intro e he
    obtain ⟨v, F, hK, q | q⟩ := cls_get wf he
    · unfold varOk; rw [q.2.2]; exact chkVar_np F q.1
    · obtain ⟨q1, j, _, q3⟩ := q
      unfold varOk; rw [q3]; exact chkVar_p j F q1
  · rw [hlen]; simp
  · rw [decide_eq_true_iff]
    symm
    refine isort_eq (List.Perm.symm ((hP.map _).trans (List.Perm.of_eq ?_))) ?_
    · rw [hlen, List.map_map]
      refine List.ext_getElem? fun i => ?_
      rw [List.getElem?_map, List.getElem?_map]
      cases q : (clsOrder as gs)[i]? with
      | none =>
        rw [List.getElem?_eq_none_iff] at q
        rw [List.getElem?_eq_none_iff.mpr (by simpa using q)]; rfl
      | some k =>
        obtain ⟨e, he, v, _, _, _, g1, _⟩ := ord_get wf q
        have hi := (List.getElem?_eq_some_iff.mp q).1
        rw [List.getElem?_range hi]
        show some ((vOf (clsInfos as gs) k).slot) = some ((1 : Int) + (i : Int))
        unfold vOf; rw [g1]
        show some ((i : Int) + 1) = _
        rw [Int.add_comm]
    · rw [List.pairwise_map]
      exact List.pairwise_lt_range.imp fun {a b} h => by (first | lia | omega)
  · rw [List.all_eq_true]
    intro a ha
    rw [List.all_eq_true]
    intro b hb
    obtain ⟨k, hk, rfl⟩ := List.mem_map.mp (hP.mem_iff.mp ha)
    obtain ⟨l, hl, rfl⟩ := List.mem_map.mp (hP.mem_iff.mp hb)
    obtain ⟨i, hi⟩ := List.mem_iff_getElem?.mp hk
    obtain ⟨j, hj⟩ := List.mem_iff_getElem?.mp hl
    obtain ⟨e1, _, v1, rfl, F1, _, g1, a1, _⟩ := ord_get wf hi
    obtain ⟨e2, _, v2, rfl, F2, _, g2, a2, _⟩ := ord_get wf hj
    have c1 := F1.var
    have c2 := F2.var
    unfold vOf; rw [g1, g2]
    show (!pairBad (setF i _) (setF j _)) = true
    unfold pairBad setF
    dsimp only
    by_cases hij : j < i
    · have hR := pw_get (order_is (kinds_nodup as gs)).1 hj hi hij
      unfold ordR at hR
      rw [a1, a2] at hR
      have d1 : ¬ v2.last < v1.last := by (first | lia | omega)
      simp only [d1, decide_false, Bool.false_and, Bool.false_or, Bool.not_eq_true', Bool.and_eq_false_iff]
      by_cases d2 : v1.last = v2.last
      · left; right; exact decide_eq_false (by (first | lia | omega))
      · left; left; simpa using d2
    · have d : ¬ ((j : Int) + 1 < (i : Int) + 1) := by (first | lia | omega)
      simp [hij]
  · unfold chkGoals
    have hcl : (chunkNums 0 gs).length = gs.length := by
      have : ∀ (l : List Gl) c, (chunkNums c l).length = l.length := by
        intro l; induction l with
        | nil => intro c; rfl
        | cons g l ih => intro c; simp [chunkNums, ih]
      exact this gs 0
    simp only [Bool.and_eq_true]
    refine ⟨⟨⟨by simp [hcl], by simp [clsLive]⟩, ?_⟩, ?_⟩
    · rw [List.all_eq_true]
      intro i hi
      have hi := List.mem_range.mp hi
      have h1 := chunk_get gs 0 i hi
      have h2 : (clsLive as gs)[i]? = some (liveAt (clsInfos as gs) (clsOrder as gs) i) := by unfold clsLive; rw [List.getElem?_map, List.getElem?_range hi]; rfl
      unfold goalOk
      rw [h1, h2]
      simp only [Bool.and_eq_true]
      refine ⟨⟨⟨by unfold callsBefore; simp, ?_⟩, ?_⟩, ?_⟩
      · rw [List.all_eq_true]
        intro e he
        obtain ⟨v, F, hK, q | q⟩ := cls_get wf he
        · unfold liveOk1; rw [q.2.2]
          show (kindOf v != _ || _) = true
          rw [Bool.or_eq_true]; left; simpa using q.1
        · obtain ⟨q1, j, q2, q3⟩ := q
          unfold liveOk1; rw [q3, later_is F.mx]
          have hl := live_iff wf (j := i) q2
          have : lastOf (clsInfos as gs) e.1 = v.last := by unfold lastOf; rw [q3]; rfl
          rw [this] at hl
          show (_ || (decide ((i : Int) < v.last) == decide ((j : Int) + 1 ≤ _))) = true
          rw [Bool.or_eq_true]; right
          rw [beq_iff_eq, decide_eq_decide]; exact hl
      · unfold liveAt; simp
      · unfold liveAt; simp; exact (List.takeWhile_sublist _).length_le
    · unfold clsNeeds inner
      rw [beq_iff_eq]
      refine (List.any_congr rfl fun i => ?_).symm
      unfold innerAt
      cases q : gs[i]? with
      | none => rfl
      | some g =>
        have hi := (List.getElem?_eq_some_iff.mp q).1
        congr 1
        rw [Bool.eq_iff_iff]; simp; (first | lia | omega)
end
section
noncomputable def sayEq (I J : Infos) (ch ch' live live' : List Int) (ev ev' : Int) (needs needs' : Bool) : Bool :=
  decide ((sayRows I).map rowVals = (sayRows J).map rowVals ∧ ch = ch' ∧ live = live' ∧ ev = ev' ∧ needs = needs')
/-! the check sees no more than the say -/
noncomputable def sayV (v : Vi) : Vi := { v with count := 0, fc := 0, lc := 0 }
theorem opt_cases {I J : Infos} {k : Int} (H : (getV I k).map sayV = (getV J k).map sayV) : (getV I k = none ∧ getV J k = none) ∨ ∃ v w, getV I k = some v ∧ getV J k = some w ∧ sayV v = sayV w := by
  cases q : getV I k with
  | none => rw [q] at H; cases q2 : getV J k with
    | none => exact .inl ⟨rfl, rfl⟩
    | some w => rw [q2] at H; cases H
  | some v => rw [q] at H; cases q2 : getV J k with
    | none => rw [q2] at H; cases H
    | some w => rw [q2] at H; exact .inr ⟨v, w, rfl, rfl, Option.some.inj H⟩
theorem sayV_inj {v w : Vi} (h : sayV v = sayV w) : v.var = w.var ∧ v.kind = w.kind ∧ v.slot = w.slot ∧ v.first = w.first ∧ v.uns = w.uns ∧ v.last = w.last := by
  unfold sayV at h
  injection h with a b c d e f
  exact ⟨a, b, c, d, e, f⟩
theorem perms_say {P : Pls} {I J : Infos} (H : ∀ k, (getV I k).map sayV = (getV J k).map sayV) : (permsOf P I).map sayV = (permsOf P J).map sayV := by
  unfold permsOf
  rw [List.map_filterMap, List.map_filterMap]
  congr 1
  funext e
  rcases opt_cases (H e.1) with ⟨h1, h2⟩ | ⟨v, w, h1, h2, h3⟩
  · rw [h1, h2]
  · rw [h1, h2]
    have := (sayV_inj h3).2.1
    simp only [Option.bind_some, this]
    split <;> simp [h3]
theorem all_map {α β : Type} (f : α → β) (p : β → Bool) (l : List α) : (l.map f).all p = l.all fun a => p (f a) := by rw [List.all_map]; rfl
theorem chk_congr {as : List Tm} {gs : List Gl} {I J : Infos} {ch live : List Int} {needs : Bool} {ev : Int} (H : ∀ k, (getV I k).map sayV = (getV J k).map sayV) (hk : isort (I.map (·.1)) = isort (J.map (·.1))) :
    chk as gs I ch live needs ev = chk as gs J ch live needs ev := by
  have hp := perms_say (P := placesOf as gs) H
  have hl : (permsOf (placesOf as gs) I).length = (permsOf (placesOf as gs) J).length := by simpa using congrArg List.length hp
  have hs : (permsOf (placesOf as gs) I).map (·.slot) = (permsOf (placesOf as gs) J).map (·.slot) := by
    have e : ∀ L : List Vi, L.map (·.slot) = (L.map sayV).map (·.slot) := fun L => by rw [List.map_map]; rfl
    rw [e, e (permsOf _ J), hp]
  have hb : (permsOf (placesOf as gs) I).all (fun a => (permsOf (placesOf as gs) I).all fun b => !pairBad a b) = (permsOf (placesOf as gs) J).all (fun a => (permsOf (placesOf as gs) J).all fun b => !pairBad a b) := by
    have e : ∀ L : List Vi, (L.all fun a => L.all fun b => !pairBad a b) = ((L.map sayV).all fun a => (L.map sayV).all fun b => !pairBad a b) := fun L => by
      rw [all_map]; congr 1; funext a; rw [all_map]; rfl
    rw [e, e (permsOf _ J), hp]
  have hv : (placesOf as gs).all (varOk I gs) = (placesOf as gs).all (varOk J gs) := by
    congr 1; funext e
    unfold varOk
    rcases opt_cases (H e.1) with ⟨h1, h2⟩ | ⟨v, w, h1, h2, h3⟩
    · rw [h1, h2]
    · rw [h1, h2]
      obtain ⟨a1, a2, a3, a4, a5, a6⟩ := sayV_inj h3
      dsimp only; unfold chkVar; rw [a1, a2, a3, a4, a5, a6]
  have hg : chkGoals (placesOf as gs) I gs ch live needs ev = chkGoals (placesOf as gs) J gs ch live needs ev := by
    have e : ∀ i lv, liveOk1 I i lv = liveOk1 J i lv := fun i lv => by
      funext e
      unfold liveOk1
      rcases opt_cases (H e.1) with ⟨h1, h2⟩ | ⟨v, w, h1, h2, h3⟩
      · rw [h1, h2]
      · rw [h1, h2]
        obtain ⟨a1, a2, a3, a4, a5, a6⟩ := sayV_inj h3
        dsimp only; rw [a2, a3]
    have e2 : ∀ i, goalOk (placesOf as gs) I gs ch live ev i = goalOk (placesOf as gs) J gs ch live ev i := fun i => by
      unfold goalOk; simp only [e]
    unfold chkGoals
    have e3 : goalOk (placesOf as gs) I gs ch live ev = goalOk (placesOf as gs) J gs ch live ev := funext e2
    rw [e3]
  unfold chk
  rw [hk, hv, hl, hs, hb, hg]

/-! the rows of the say -/
theorem getV_key {I : Infos} {k : Int} : (∃ v, getV I k = some v) ↔ k ∈ I.map (·.1) := by
  constructor
  · rintro ⟨v, h⟩
    unfold getV at h
    obtain ⟨e, he, _⟩ := Option.map_eq_some_iff.mp h
    have := List.find?_some he
    exact List.mem_map.mpr ⟨e, List.mem_of_find?_eq_some he, by simpa using this⟩
  · intro h
    obtain ⟨e, he, e1⟩ := List.mem_map.mp h
    exact getV_some (List.any_eq_true.mpr ⟨e, he, by simpa using e1⟩)
theorem rows_gen (I : Infos) : ∀ ks : List Int, (∀ k ∈ ks, ∃ v, getV I k = some v) → (ks.filterMap fun k => (getV I k).map fun v => (k, v)).map rowVals = ks.map fun k => rowVals (k, vOf I k)
  | [], _ => rfl
  | k :: ks, h => by
    obtain ⟨v, hv⟩ := h k (List.mem_cons_self ..)
    have hf : vOf I k = v := by unfold vOf; rw [hv]; rfl
    rw [List.filterMap_cons, hv]
    simp only [Option.map_some, List.map_cons]
    rw [rows_gen I ks fun x hx => h x (.tail _ hx), hf]
theorem rows_eq (I : Infos) : (sayRows I).map rowVals = (isort (I.map (·.1))).map fun k => rowVals (k, vOf I k) :=
  rows_gen I _ fun k hk => getV_key.mpr ((isort_perm _).mem_iff.mp hk)
theorem rowVals_inj {k j : Int} {v w : Vi} (h : rowVals (k, v) = rowVals (j, w)) : k = j ∧ sayV v = sayV w := by
  unfold rowVals at h
  simp only [List.cons.injEq, Value.int.injEq, Value.str.injEq, Value.bool.injEq] at h
  obtain ⟨a0, a1, a2, a3, a4, a5, a6, _⟩ := h
  refine ⟨by simpa using a0, ?_⟩
  unfold sayV
  simp only [Vi.mk.injEq]
  exact ⟨by simpa using a1, by simpa using a2, by simpa using a5, by simpa using a3, a6, by simpa using a4, trivial, trivial, trivial⟩
theorem rows_say {I J : Infos} (h : (sayRows I).map rowVals = (sayRows J).map rowVals) : (∀ k, (getV I k).map sayV = (getV J k).map sayV) ∧ isort (I.map (·.1)) = isort (J.map (·.1)) := by
  rw [rows_eq, rows_eq] at h
  have hk : isort (I.map (·.1)) = isort (J.map (·.1)) := by
    have h2 := congrArg (List.map List.head?) h
    rw [List.map_map, List.map_map] at h2
    have e : ∀ (I : Infos) (l : List Int), l.map (List.head? ∘ fun k => rowVals (k, vOf I k)) = l.map fun k => some (Value.int k 0) := fun I l => rfl
    rw [e, e] at h2
    have inj : ∀ a b : List Int, (a.map fun k => some (Value.int k 0)) = (b.map fun k => some (Value.int k 0)) → a = b := by
      intro a
      induction a with
      | nil => intro b h; cases b with | nil => rfl | cons => cases h
      | cons x a ih => intro b h; cases b with
        | nil => cases h
        | cons y b => simp only [List.map_cons, List.cons.injEq, Option.some.injEq, Value.int.injEq] at h; rw [h.1.1, ih b h.2]
    exact inj _ _ h2
  refine ⟨fun k => ?_, hk⟩
  by_cases hm : k ∈ I.map (·.1)
  · have hi := (isort_perm _).mem_iff.mpr hm
    have hm2 : k ∈ J.map (·.1) := by rw [hk] at hi; exact (isort_perm _).mem_iff.mp hi
    rw [← hk] at h
    have := (rowVals_inj (List.map_inj_left.mp h k hi)).2
    obtain ⟨v, hv⟩ := getV_key.mpr hm
    obtain ⟨w, hw⟩ := getV_key.mpr hm2
    unfold vOf at this
    rw [hv, hw] at this ⊢
    exact congrArg some this
  · have hm2 : k ∉ J.map (·.1) := fun q => hm ((isort_perm _).mem_iff.mp (hk ▸ (isort_perm _).mem_iff.mpr q))
    have n1 : getV I k = none := by
      cases q : getV I k with
      | none => rfl
      | some v => exact absurd (getV_key.mp ⟨v, q⟩) hm
    have n2 : getV J k = none := by
      cases q : getV J k with
      | none => rfl
      | some v => exact absurd (getV_key.mp ⟨v, q⟩) hm2
    rw [n1, n2]
end
section
/-! what the check says of a variable -/
noncomputable def kindS (gs : List Gl) (ps : List Pt) : Str := if crosses gs ps then Str.ofString "perm" else if ps.length = 1 then Str.ofString "void" else Str.ofString "temp"
structure VarIs (gs : List Gl) (k : Int) (ps : List Pt) (v : Vi) : Prop where
  var : v.var = k
  first : v.first = firstWord ps
  mx : isMax ps v.last = true
  kind : v.kind = kindS gs ps
  slot : crosses gs ps = false → v.slot = 0
  uns : v.uns = (crosses gs ps && firstWord ps == Str.ofString "goal_arg")
theorem var_is {gs : List Gl} {k : Int} {ps : List Pt} {v : Vi} (h : chkVar gs k ps v = true) : VarIs gs k ps v := by
  unfold chkVar at h
  simp only [Bool.and_eq_true] at h
  obtain ⟨⟨⟨⟨⟨⟨⟨h1, h2⟩, h3⟩, h4⟩, h5⟩, h6⟩, h7⟩, h8⟩ := h
  have h1 : v.var = k := by simpa using h1
  have h2 : v.first = firstWord ps := by simpa using h2
  rw [beq_iff_eq] at h4 h5
  have hd1 : (Str.ofString "void" == Str.ofString "perm") = false := by decide
  have hd2 : (Str.ofString "temp" == Str.ofString "perm") = false := by decide
  have hd3 : (Str.ofString "temp" == Str.ofString "void") = false := by decide
  have hd4 : (Str.ofString "perm" == Str.ofString "void") = false := by decide
  have hlen : ∀ b : Bool, b = ((ps.length : Int) == 1) → (b = true ↔ ps.length = 1) := by
    rintro b rfl; rw [beq_iff_eq]; (first | lia | omega)
  have hk := hlen _ h4
  have h6 : v.kind = Str.ofString "void" ∨ v.kind = Str.ofString "perm" ∨ v.kind = Str.ofString "temp" := by
    rw [List.any_eq_true] at h6
    obtain ⟨x, hx, e⟩ := h6
    have e : x = v.kind := by simpa using e
    subst e
    simpa using hx
  rcases h6 with e | e | e
  · rw [e] at h5 hk h7 h8
    rw [hd1] at h5
    have hl := hk.mp (by simp)
    have h7 : v.slot = 0 ∧ v.uns = false := by
      cases q : v.uns <;> rw [q] at h7 <;> simp [bne, hd1] at h7
      exact ⟨h7, rfl⟩
    exact ⟨h1, h2, h3, by rw [e]; unfold kindS; rw [← h5, if_neg (by decide), if_pos hl], fun _ => h7.1, by rw [h7.2, ← h5]; rfl⟩
  · rw [e] at h5 hk h7 h8
    have h5 : crosses gs ps = true := by rw [← h5]; simp
    have h8 : v.uns = (v.first == Str.ofString "goal_arg") := by simpa [bne] using h8
    exact ⟨h1, h2, h3, by rw [e]; unfold kindS; rw [h5, if_pos rfl], fun q => (by rw [h5] at q; cases q), (by rw [h8, h5, h2]; rfl)⟩
  · rw [e] at h5 hk h7 h8
    rw [hd2] at h5
    have hl : ¬ ps.length = 1 := fun q => by have := hk.mpr q; rw [hd3] at this; cases this
    have h7 : v.slot = 0 ∧ v.uns = false := by
      cases q : v.uns <;> rw [q] at h7 <;> simp [bne, hd2] at h7
      exact ⟨h7, rfl⟩
    exact ⟨h1, h2, h3, by rw [e]; unfold kindS; rw [← h5, if_neg (by decide), if_neg hl], fun _ => h7.1, by rw [h7.2, ← h5]; rfl⟩

/-! slots are places in the order -/
theorem range_count (t : Int) (h0 : 0 ≤ t) : ∀ n : Nat, (((List.range n).countP fun (i : Nat) => decide ((i : Int) < t) : Nat) : Int) = min (n : Int) t
  | 0 => by simp; (first | lia | omega)
  | n + 1 => by
    rw [List.range_succ, List.countP_append]
    have ih := range_count t h0 n
    by_cases q : (n : Int) < t
    · simp [List.countP_cons, q]; (first | lia | omega)
    · simp [List.countP_cons, q]; (first | lia | omega)
theorem count_lt {l : List Int} {n : Nat} (h : isort l = (List.range n).map fun (i : Nat) => (1 : Int) + (i : Int)) {s : Int} (h1 : 1 ≤ s) (h2 : s ≤ n + 1) : ((l.countP fun x => decide (x < s)) : Int) = s - 1 := by
  rw [← (isort_perm l).countP_eq, h, List.countP_map]
  have e : ((fun x : Int => decide (x < s)) ∘ fun (i : Nat) => (1 : Int) + (i : Int)) = fun (i : Nat) => decide ((i : Int) < s - 1) := by
    funext i; show decide (1 + (i : Int) < s) = _
    rw [decide_eq_decide]; (first | lia | omega)
  rw [e, range_count (s - 1) (by (first | lia | omega))]; (first | lia | omega)
noncomputable def vD (v : Vi) : Int × Int := (v.var, v.last)
noncomputable def precD (d e : Int × Int) : Bool := decide (e.2 < d.2 ∨ (d.2 = e.2 ∧ d.1 < e.1))
theorem slot_nodup {L : List Vi} (h : isort (L.map (·.slot)) = (List.range L.length).map fun (i : Nat) => (1 : Int) + (i : Int)) : (L.map (·.slot)).Nodup := by
  rw [← (isort_perm _).nodup_iff, h]
  rw [List.nodup_iff_pairwise_ne, List.pairwise_map]
  exact List.pairwise_lt_range.imp fun {a b} h => by (first | lia | omega)
theorem slot_rng {L : List Vi} (h : isort (L.map (·.slot)) = (List.range L.length).map fun (i : Nat) => (1 : Int) + (i : Int)) {v : Vi} (hv : v ∈ L) : 1 ≤ v.slot ∧ v.slot ≤ L.length := by
  have : v.slot ∈ isort (L.map (·.slot)) := (isort_perm _).mem_iff.mpr (List.mem_map.mpr ⟨v, hv, rfl⟩)
  rw [h] at this
  obtain ⟨i, hi, e⟩ := List.mem_map.mp this
  have := List.mem_range.mp hi
  (first | lia | omega)
theorem slot_is {L : List Vi} (h : isort (L.map (·.slot)) = (List.range L.length).map fun (i : Nat) => (1 : Int) + (i : Int)) (hp : ∀ a ∈ L, ∀ b ∈ L, pairBad a b = false) (hv : ∀ a ∈ L, ∀ b ∈ L, a.var = b.var → a = b) {v : Vi} (hm : v ∈ L) :
    v.slot = 1 + (((L.map vD).countP fun d => precD d (vD v)) : Int) := by
  obtain ⟨r1, r2⟩ := slot_rng h hm
  have hc := count_lt h (s := v.slot) r1 (by (first | lia | omega))
  rw [List.countP_map] at hc ⊢
  have : L.countP ((fun d => precD d (vD v)) ∘ vD) = L.countP ((fun x : Int => decide (x < v.slot)) ∘ fun v : Vi => v.slot) := by
    refine List.countP_congr fun w hw => ?_
    show precD (vD w) (vD v) = true ↔ decide (w.slot < v.slot) = true
    unfold precD vD
    rw [decide_eq_true_iff, decide_eq_true_iff]
    dsimp only
    have b1 := hp v hm w hw
    have b2 := hp w hw v hm
    unfold pairBad at b1 b2
    simp only [Bool.or_eq_false_iff, Bool.and_eq_false_iff, decide_eq_false_iff_not, beq_eq_false_iff_ne] at b1 b2
    have e1 : w.var = v.var → w = v := hv w hw v hm
    have e2 : w.slot = v.slot → w = v := fun q => nodup_inj (slot_nodup h) hw hm q
    constructor
    · intro q
      have : w ≠ v := by rintro rfl; (first | lia | omega)
      have : w.slot ≠ v.slot := fun x => this (e2 x)
      (first | lia | omega)
    · intro q
      have : w ≠ v := by rintro rfl; (first | lia | omega)
      have : w.var ≠ v.var := fun x => this (e1 x)
      (first | lia | omega)
  rw [this]; (first | lia | omega)
theorem live_is {L : List Vi} (h : isort (L.map (·.slot)) = (List.range L.length).map fun (i : Nat) => (1 : Int) + (i : Int)) {lv i : Int} (h0 : 0 ≤ lv) (h1 : lv ≤ L.length) (hl : ∀ v ∈ L, decide (i < v.last) = decide (v.slot ≤ lv)) :
    lv = (((L.map vD).countP fun d => decide (i < d.2)) : Int) := by
  have hc := count_lt h (s := lv + 1) (by (first | lia | omega)) (by (first | lia | omega))
  rw [List.countP_map] at hc ⊢
  have : L.countP ((fun d : Int × Int => decide (i < d.2)) ∘ vD) = L.countP ((fun x : Int => decide (x < lv + 1)) ∘ fun v : Vi => v.slot) := by
    refine List.countP_congr fun w hw => ?_
    show decide (i < w.last) = true ↔ decide (w.slot < lv + 1) = true
    rw [hl w hw, decide_eq_true_iff, decide_eq_true_iff]; (first | lia | omega)
  rw [this]; (first | lia | omega)
end
section
noncomputable def permD (P : Pls) (I : Infos) : List (Int × Int) := (permsOf P I).map vD
structure ChkIs (as : List Tm) (gs : List Gl) (I : Infos) (ch live : List Int) (needs : Bool) (ev : Int) : Prop where
  keys : isort ((placesOf as gs).map (·.1)) = isort (I.map (·.1))
  vars : ∀ e ∈ placesOf as gs, ∃ v, getV I e.1 = some v ∧ VarIs gs e.1 e.2 v ∧ (crosses gs e.2 = true → v.slot = 1 + (((permD (placesOf as gs) I).countP fun d => precD d (vD v)) : Int))
  env : ev = ((permD (placesOf as gs) I).length : Int)
  chl : ch.length = gs.length
  lvl : live.length = gs.length
  chs : ∀ i, i < gs.length → ch[i]? = some (callsBefore gs i)
  lvs : ∀ i, i < gs.length → live[i]? = some (((permD (placesOf as gs) I).countP fun d => decide ((i : Int) < d.2)) : Int)
  needs : needs = inner gs
theorem kind_perm {gs : List Gl} {ps : List Pt} : kindS gs ps = Str.ofString "perm" ↔ crosses gs ps = true := by
  unfold kindS
  cases crosses gs ps
  · rw [if_neg (by decide)]
    by_cases q : ps.length = 1
    · rw [if_pos q]; decide
    · rw [if_neg q]; decide
  · simp
theorem perms_mem {P : Pls} {I : Infos} {a : Vi} (h : a ∈ permsOf P I) : ∃ e ∈ P, getV I e.1 = some a ∧ a.kind = Str.ofString "perm" := by
  obtain ⟨e, he, h⟩ := List.mem_filterMap.mp h
  cases q : getV I e.1 with
  | none => rw [q] at h; cases h
  | some v =>
    rw [q] at h
    simp only [Option.bind_some] at h
    split at h
    · rename_i hq
      cases h
      exact ⟨e, he, q, by simpa using hq⟩
    · cases h
theorem mem_perms {P : Pls} {I : Infos} {a : Vi} {e : Int × List Pt} (he : e ∈ P) (h : getV I e.1 = some a) (hk : a.kind = Str.ofString "perm") : a ∈ permsOf P I :=
  List.mem_filterMap.mpr ⟨e, he, by rw [h]; simp [hk]⟩
theorem chk_is {as : List Tm} {gs : List Gl} {I : Infos} {ch live : List Int} {needs : Bool} {ev : Int} (h : chk as gs I ch live needs ev = true) : ChkIs as gs I ch live needs ev := by
  unfold chk at h
  simp only [Bool.and_eq_true] at h
  obtain ⟨⟨⟨⟨⟨h1, h2⟩, h3⟩, h4⟩, h5⟩, h6⟩ := h
  rw [decide_eq_true_iff] at h1 h4
  rw [List.all_eq_true] at h2
  have h3 : ev = ((permsOf (placesOf as gs) I).length : Int) := by simpa using h3
  have hv : ∀ e ∈ placesOf as gs, ∃ v, getV I e.1 = some v ∧ VarIs gs e.1 e.2 v := by
    intro e he
    have := h2 e he
    unfold varOk at this
    cases q : getV I e.1 with
    | none => rw [q] at this; cases this
    | some v => rw [q] at this; exact ⟨v, rfl, var_is this⟩
  have hb : ∀ a ∈ permsOf (placesOf as gs) I, ∀ b ∈ permsOf (placesOf as gs) I, pairBad a b = false := by
    intro a ha b hb
    have := (List.all_eq_true.mp ((List.all_eq_true.mp h5) a ha)) b hb
    simpa using this
  have hvar : ∀ a ∈ permsOf (placesOf as gs) I, ∀ b ∈ permsOf (placesOf as gs) I, a.var = b.var → a = b := by
    intro a ha b hb q
    obtain ⟨e, he, ga, _⟩ := perms_mem ha
    obtain ⟨f, hf, gb, _⟩ := perms_mem hb
    obtain ⟨v, gv, V⟩ := hv e he
    obtain ⟨w, gw, W⟩ := hv f hf
    rw [ga] at gv; cases gv
    rw [gb] at gw; cases gw
    have : e.1 = f.1 := by rw [← V.var, ← W.var]; exact q
    rw [this, gb] at ga
    exact (Option.some.inj ga).symm
  unfold chkGoals at h6
  simp only [Bool.and_eq_true] at h6
  obtain ⟨⟨⟨g1, g2⟩, g3⟩, g4⟩ := h6
  have g1 : ch.length = gs.length := by simpa using g1
  have g2 : live.length = gs.length := by simpa using g2
  have g4 : needs = inner gs := by simpa using g4
  rw [List.all_eq_true] at g3
  have hgoal : ∀ i, i < gs.length → ch[i]? = some (callsBefore gs i) ∧ live[i]? = some (((permD (placesOf as gs) I).countP fun d => decide ((i : Int) < d.2)) : Int) := by
    intro i hi
    have := g3 i (List.mem_range.mpr hi)
    unfold goalOk at this
    obtain ⟨c, hc⟩ : ∃ c, ch[i]? = some c := ⟨_, List.getElem?_eq_getElem (by (first | lia | omega))⟩
    obtain ⟨l, hl⟩ : ∃ c, live[i]? = some c := ⟨_, List.getElem?_eq_getElem (by (first | lia | omega))⟩
    rw [hc, hl] at this ⊢
    simp only [Bool.and_eq_true] at this
    obtain ⟨⟨⟨t1, t2⟩, t3⟩, t4⟩ := this
    have t1 : c = callsBefore gs i := by simpa using t1
    have t3 : 0 ≤ l := by simpa using t3
    have t4 : l ≤ ev := by simpa using t4
    rw [List.all_eq_true] at t2
    refine ⟨by rw [t1], congrArg some ?_⟩
    refine live_is h4 t3 (by (first | lia | omega)) fun v hv' => ?_
    obtain ⟨e, he, gv, hk⟩ := perms_mem hv'
    obtain ⟨w, gw, W⟩ := hv e he
    rw [gv] at gw; cases gw
    have := t2 e he
    unfold liveOk1 at this
    rw [gv] at this
    dsimp only at this
    rw [later_is W.mx, hk] at this
    simpa using this
  refine ⟨h1, fun e he => ?_, by unfold permD; rw [List.length_map]; exact h3, g1, g2, fun i hi => (hgoal i hi).1, fun i hi => (hgoal i hi).2, g4⟩
  obtain ⟨v, gv, V⟩ := hv e he
  refine ⟨v, gv, V, fun hc => slot_is h4 hb hvar (mem_perms he gv (by rw [V.kind]; exact kind_perm.mpr hc))⟩
theorem fm_congr {α β : Type} {f g : α → Option β} : ∀ {l : List α}, (∀ x ∈ l, f x = g x) → l.filterMap f = l.filterMap g
  | [], _ => rfl
  | x :: l, h => by
    rw [List.filterMap_cons, List.filterMap_cons, h x (List.mem_cons_self ..), fm_congr fun y hy => h y (.tail _ hy)]
theorem permD_same {as : List Tm} {gs : List Gl} {I J : Infos} {ch ch' live live' : List Int} {needs needs' : Bool} {ev ev' : Int} (h : ChkIs as gs I ch live needs ev) (h' : ChkIs as gs J ch' live' needs' ev') : permD (placesOf as gs) I = permD (placesOf as gs) J := by
  unfold permD permsOf
  rw [List.map_filterMap, List.map_filterMap]
  refine fm_congr fun e he => ?_
  obtain ⟨v, gv, V, _⟩ := h.vars e he
  obtain ⟨w, gw, W, _⟩ := h'.vars e he
  rw [gv, gw]
  simp only [Option.bind_some]
  rw [V.kind, W.kind]
  have hl : vD v = vD w := by unfold vD; rw [V.var, W.var, isMax_one V.mx W.mx]
  split <;> simp [hl]
theorem chk_one {as : List Tm} {gs : List Gl} {I J : Infos} {ch ch' live live' : List Int} {needs needs' : Bool} {ev ev' : Int} (h : ChkIs as gs I ch live needs ev) (h' : ChkIs as gs J ch' live' needs' ev') :
    sayEq I J ch ch' live live' ev ev' needs needs' = true := by
  have hD := permD_same h h'
  unfold sayEq
  rw [decide_eq_true_iff]
  refine ⟨?_, ?_, ?_, by rw [h.env, h'.env, hD], by rw [h.needs, h'.needs]⟩
  · rw [rows_eq, rows_eq, ← h.keys, ← h'.keys]
    refine List.map_congr_left fun k hk => ?_
    obtain ⟨e, he, rfl⟩ := List.mem_map.mp ((isort_perm _).mem_iff.mp hk)
    obtain ⟨v, gv, V, sv⟩ := h.vars e he
    obtain ⟨w, gw, W, sw⟩ := h'.vars e he
    unfold vOf
    rw [gv, gw]
    have hl := isMax_one V.mx W.mx
    have hd : vD v = vD w := by unfold vD; rw [V.var, W.var, hl]
    have hs : v.slot = w.slot := by
      cases q : crosses gs e.2
      · rw [V.slot q, W.slot q]
      · rw [sv q, sw q, hD, hd]
    unfold rowVals
    dsimp only [Option.getD_some]
    rw [V.var, W.var, V.kind, W.kind, V.first, W.first, hl, hs, V.uns, W.uns]
  · refine List.ext_getElem? fun i => ?_
    by_cases hi : i < gs.length
    · rw [h.chs i hi, h'.chs i hi]
    · rw [List.getElem?_eq_none (by rw [h.chl]; (first | lia | omega)), List.getElem?_eq_none (by rw [h'.chl]; (first | lia | omega))]
  · refine List.ext_getElem? fun i => ?_
    by_cases hi : i < gs.length
    · rw [h.lvs i hi, h'.lvs i hi, hD]
    · rw [List.getElem?_eq_none (by rw [h.lvl]; (first | lia | omega)), List.getElem?_eq_none (by rw [h'.lvl]; (first | lia | omega))]
theorem plain2 {as : List Tm} {gs : List Gl} {I : Infos} {ch live : List Int} {needs : Bool} {ev : Int} (wf : WfK as gs) :
    chk as gs I ch live needs ev = sayEq I (clsInfos as gs) ch (chunkNums 0 gs) live (clsLive as gs) ev ((clsOrder as gs).length : Int) needs (clsNeeds gs) := by
  have p1 := plain1 wf
  rw [Bool.eq_iff_iff]
  constructor
  · intro h
    exact chk_one (chk_is h) (chk_is p1)
  · intro h
    unfold sayEq at h
    rw [decide_eq_true_iff] at h
    obtain ⟨h1, h2, h3, h4, h5⟩ := h
    obtain ⟨r1, r2⟩ := rows_say h1
    rw [h2, h3, h4, h5, chk_congr r1 r2]; exact p1
end
section
variable {D : Wd} {n : Nat} {S : PH}
/-! deep == of two says -/
noncomputable def rowD (e : SayRow) : PyData := .tuple [.int e.1, .int e.2.var, .str e.2.kind, .str e.2.first, .int e.2.last, .int e.2.slot, .bool e.2.uns]
noncomputable def sayD (rows : List SayRow) (ch live : List Int) (needs : Bool) (ev : Int) : PyData := .tuple [.list (rows.map rowD), .list (ch.map .int), .list (live.map .int), .int ev, .bool needs]
inductive Sc : Value → PyData → Prop
  | int (i : Int) : Sc (.int i 0) (.int i)
  | str (x : Str) : Sc (.str x 0) (.str x)
  | bool (b : Bool) : Sc (.bool b) (.bool b)
theorem Sc.reads {h : Heap} {v w : Value} {d : PyData} (x : Sc w d) (e : er v = w) : Reads h v d [] := by
  cases x with
  | int i => obtain ⟨u, rfl⟩ := er_int e; exact .int _ _
  | str i => obtain ⟨u, rfl⟩ := er_str e; exact .str _ _
  | bool b => rw [er_bool e]; exact .bool _
theorem Sc.all {h : Heap} {ws : List Value} {ds : List PyData} (x : All2 Sc ws ds) : ∀ {vs : List Value}, vs.map er = ws → ReadsAll h vs ds [] := by
  induction x with
  | nil => intro vs e; cases vs with | nil => exact .nil | cons => cases e
  | cons a _ ih =>
    intro vs e
    cases vs with
    | nil => cases e
    | cons v vs => simp only [List.map_cons, List.cons.injEq] at e; exact .cons (a.reads e.1) (ih e.2)
theorem sc_ints (ns : List Int) : All2 Sc (iL ns) (ns.map .int) := by
  induction ns with
  | nil => exact .nil
  | cons n r ih => exact .cons (.int n) ih
theorem sc_row (e : SayRow) : All2 Sc (rowVals e) [.int e.1, .int e.2.var, .str e.2.kind, .str e.2.first, .int e.2.last, .int e.2.slot, .bool e.2.uns] :=
  .cons (.int _) (.cons (.int _) (.cons (.str _) (.cons (.str _) (.cons (.int _) (.cons (.int _) (.cons (.bool _) .nil))))))
section
variable {L : Addr} {m : Loc} {base : OH} {s : Shared}
theorem reads_il {a : Addr} {ns : List Int} (X : At D base L S m s) (h : S a = some (.list (iL ns))) : ∃ as, Reads s.heap (.ref a) (.list (ns.map .int)) as := by
  obtain ⟨o, ho, us, k, rfl, hu⟩ := X.here h
  exact ⟨_, .list ho rfl rfl (Sc.all (sc_ints ns) hu)⟩
theorem er_refs : ∀ {vs : List Value} {rs : List Addr}, vs.map er = rs.map .ref → vs = rs.map .ref
  | [], [], _ => rfl
  | [], _ :: _, h => by cases h
  | _ :: _, [], h => by cases h
  | v :: vs, r :: rs, h => by
    simp only [List.map_cons, List.cons.injEq] at h
    rw [List.map_cons, er_ref h.1, er_refs h.2]
theorem reads_rows (X : At D base L S m s) {rs : List Addr} {rows : List SayRow} (h : All2 (fun r e => S r = some (.tup (rowVals e))) rs rows) : ReadsAll s.heap (rs.map .ref) (rows.map rowD) [] := by
  induction h with
  | nil => exact .nil
  | cons a _ ih =>
    obtain ⟨o, ho, us, k, rfl, hu⟩ := X.here a
    exact .cons (.tuple ho rfl rfl (Sc.all (sc_row _) hu)) ih
theorem reads_say (X : At D base L S m s) {t : Addr} {rows : List SayRow} {ch live : List Int} {needs : Bool} {ev : Int} (h : SayAt S t rows ch live needs ev) : ∃ as, Reads s.heap (.ref t) (sayD rows ch live needs ev) as := by
  obtain ⟨rw_, c, l, rs, h1, h2, h3, h4, h5⟩ := h
  obtain ⟨o, ho, us, k, rfl, hu⟩ := X.here h1
  obtain ⟨o2, ho2, us2, k2, rfl, hu2⟩ := X.here h2
  have e2 := er_refs hu2
  have r2 : Reads s.heap (.ref rw_) (.list (rows.map rowD)) _ := .list ho2 rfl rfl (by rw [e2]; exact reads_rows X h3)
  obtain ⟨as3, r3⟩ := reads_il X h4
  obtain ⟨as4, r4⟩ := reads_il X h5
  have e : ∃ u, us.toList = [.ref rw_, .ref c, .ref l, .int ev u, .bool needs] := by
    generalize us.toList = q at hu
    rcases q with _ | ⟨a, _ | ⟨b, _ | ⟨c', _ | ⟨d, _ | ⟨e, _ | ⟨f, q⟩⟩⟩⟩⟩⟩ <;> simp at hu
    obtain ⟨a1, a2, a3, a4, a5⟩ := hu
    obtain ⟨u, rfl⟩ := er_int a4
    exact ⟨u, by rw [er_ref a1, er_ref a2, er_ref a3, er_bool a5]⟩
  obtain ⟨u, e⟩ := e
  exact ⟨_, .tuple ho rfl rfl (by rw [e]; exact .cons r2 (.cons r3 (.cons r4 (.cons (.int _ _) (.cons (.bool _) .nil)))))⟩
end
theorem canLay_ints (ns : List Int) : PyData.canLayAll0 (ns.map .int) = true := canLayAll0_ints ns
theorem canLay_rows : ∀ rows : List SayRow, (∀ e ∈ rows, SOk e.2) → PyData.canLayAll0 (rows.map rowD) = true
  | [], _ => by simp [PyData.canLayAll0]
  | e :: r, h => by
    have h1 := h e (List.mem_cons_self ..)
    rw [List.map_cons, PyData.canLayAll0, canLay_rows r fun x hx => h x (.tail _ hx)]
    simp [rowD, PyData.canLay0, PyData.canLayAll0, h1.1, h1.2]
theorem depth_rows : ∀ rows : List SayRow, PyData.depthAll (rows.map rowD) ≤ 1
  | [] => by simp [PyData.depthAll]
  | e :: r => by
    have := depth_rows r
    rw [List.map_cons, PyData.depthAll]
    have : (rowD e).depth = 1 := by simp [rowD, PyData.depth, PyData.depthAll]
    (first | lia | omega)
theorem shaped_say {rows : List SayRow} {ch live : List Int} {needs : Bool} {ev : Int} (h : ∀ e ∈ rows, SOk e.2) : PySem.SeqAt.shaped (sayD rows ch live needs ev) = true := by
  unfold PySem.SeqAt.shaped
  rw [Bool.and_eq_true]
  refine ⟨?_, decide_eq_true ?_⟩
  · unfold sayD
    simp only [PyData.canLay0, PyData.canLayAll0, canLay_rows rows h, canLay_ints, Bool.and_self]
  · unfold sayD
    have h1 := depth_rows rows
    have h2 := PyProof.Rows.depthAll_ints ch
    have h3 := PyProof.Rows.depthAll_ints live
    simp only [PyData.depth, PyData.depthAll]
    (first | lia | omega)
theorem eqv_ints : ∀ ns ms : List Int, PyData.eqvAll (ns.map .int) (ms.map .int) = decide (ns = ms)
  | [], [] => by simp [PyData.eqvAll]
  | [], _ :: _ => by simp [PyData.eqvAll]
  | _ :: _, [] => by simp [PyData.eqvAll]
  | n :: r, k :: q => by
    simp only [List.map_cons, PyData.eqvAll, PyData.eqv, eqv_ints r q]
    by_cases h : n = k <;> simp [h]
theorem eqv_row (e f : SayRow) : PyData.eqv (rowD e) (rowD f) = decide (rowVals e = rowVals f) := by
  unfold rowD rowVals
  simp only [PyData.eqv, PyData.eqvAll]
  rw [Bool.eq_iff_iff]
  simp only [Bool.and_eq_true, beq_iff_eq, decide_eq_true_iff, List.cons.injEq, Value.int.injEq, Value.str.injEq, Value.bool.injEq, and_true]
theorem eqv_rows : ∀ a b : List SayRow, PyData.eqvAll (a.map rowD) (b.map rowD) = decide (a.map rowVals = b.map rowVals)
  | [], [] => by simp [PyData.eqvAll]
  | [], _ :: _ => by simp [PyData.eqvAll]
  | _ :: _, [] => by simp [PyData.eqvAll]
  | e :: r, f :: q => by
    simp only [List.map_cons, PyData.eqvAll, eqv_rows r q, eqv_row]
    by_cases h : rowVals e = rowVals f <;> simp [h]
theorem eqv_say {I J : Infos} {ch ch' live live' : List Int} {ev ev' : Int} {needs needs' : Bool} : PyData.eqv (sayD (sayRows I) ch live needs ev) (sayD (sayRows J) ch' live' needs' ev') = sayEq I J ch ch' live live' ev ev' needs needs' := by
  unfold sayD sayEq
  simp only [PyData.eqv, PyData.eqvAll, eqv_rows, eqv_ints]
  rw [Bool.eq_iff_iff]
  simp only [Bool.and_eq_true, beq_iff_eq, decide_eq_true_iff, and_true]
theorem rows_sok {I : Infos} (h : ∀ e ∈ I, SOk e.2) : ∀ e ∈ sayRows I, SOk e.2 := by
  intro e he
  obtain ⟨k, _, hk⟩ := List.mem_filterMap.mp he
  obtain ⟨v, hv, rfl⟩ := Option.map_eq_some_iff.mp hk
  unfold getV at hv
  obtain ⟨x, hx, rfl⟩ := Option.map_eq_some_iff.mp hv
  exact h x (List.mem_of_find?_eq_some hx)
theorem Cmp_eq_say {L : Addr} {m : Loc} {Q : Value → PH → Loc → Prop} {t1 t2 : Addr} {I J : Infos} {ch ch' live live' : List Int} {ev ev' : Int} {needs needs' : Bool} (h1 : SayAt S t1 (sayRows I) ch live needs ev) (h2 : SayAt S t2 (sayRows J) ch' live' needs' ev')
    (o1 : ∀ e ∈ I, SOk e.2) (o2 : ∀ e ∈ J, SOk e.2) (h : Q (.bool (sayEq I J ch ch' live live' ev ev' needs needs')) S m) : Cmp D n L .Eq (.ref t1) (.ref t2) S m Q := fun a' b' e1 e2 base A s o Bs X => by
  have := er_ref e1; have := er_ref e2; subst_vars
  obtain ⟨as, r1⟩ := reads_say X h1
  obtain ⟨bs, r2⟩ := reads_say X h2
  refine eq_dataH r1 r2 (shaped_say (rows_sok o1)) (shaped_say (rows_sok o2)) (by have := o.2.2; rw [cLine_is]; (first | lia | omega)) ⟨S, m, X, ?_⟩
  rw [eqv_say]; exact h
/-! classify's words are words -/
theorem sok_upd {I : Infos} {k : Int} {f : Vi → Vi} (h : ∀ e ∈ I, SOk e.2) (hf : ∀ v, SOk v → SOk (f v)) : ∀ e ∈ updV I k f, SOk e.2 := by
  intro e he
  obtain ⟨x, hx, rfl⟩ := List.mem_map.mp he
  split
  · exact hf _ (h x hx)
  · exact h x hx
theorem sok_meet {I : Infos} {e : Ev} (h : ∀ x ∈ I, SOk x.2) (hw : PyData.strOk e.w = true) : ∀ x ∈ oneMeet I e, SOk x.2 := by
  unfold oneMeet meetI
  refine sok_upd ?_ fun v hv => hv
  split
  · exact h
  · intro x hx
    rcases List.mem_append.mp hx with hx | hx
    · exact h x hx
    · rw [List.mem_singleton.mp hx]; exact ⟨(by decide +kernel : PyData.strOk (Str.ofString "temp") = true), hw⟩
theorem sok_meets : ∀ (ms : List Ev) {I : Infos}, (∀ x ∈ I, SOk x.2) → (∀ e ∈ ms, PyData.strOk e.w = true) → ∀ x ∈ ms.foldl oneMeet I, SOk x.2
  | [], I, h, _ => h
  | e :: ms, I, h, hw => sok_meets ms (sok_meet h (hw e (List.mem_cons_self ..))) fun x hx => hw x (.tail _ hx)
theorem mts_word {pl : Str} {goal chunk : Int} {ts : List Tm} (h1 : PyData.strOk (pl ++ Str.ofString "_arg") = true) (h2 : PyData.strOk (pl ++ Str.ofString "_struct") = true) : ∀ e ∈ rowMts pl goal chunk ts, PyData.strOk e.w = true := by
  intro e he
  obtain ⟨t, ht, he⟩ := List.mem_flatMap.mp he
  rcases t with (_ | k) | ⟨x, y⟩
  · obtain ⟨k, _, rfl⟩ := List.mem_map.mp he; exact h2
  · rw [List.mem_singleton.mp he]; exact h1
  · obtain ⟨k, _, rfl⟩ := List.mem_map.mp he; exact h2
theorem goals_word : ∀ (gs : List Gl) (c i : Int), ∀ e ∈ goalMts c i gs, PyData.strOk e.w = true
  | [], c, i, e, he => by cases he
  | g :: r, c, i, e, he => by
    rcases List.mem_append.mp he with he | he
    · rcases List.mem_append.mp he with he | he
      · split at he
        · rw [List.mem_singleton.mp he]; exact (by decide +kernel : PyData.strOk (Str.ofString "special") = true)
        · cases he
      · exact mts_word (by decide +kernel) (by decide +kernel) e he
    · exact goals_word r _ _ e he
theorem sok_slots : ∀ (l : List (Int × Nat)) {I : Infos}, (∀ x ∈ I, SOk x.2) → ∀ x ∈ l.foldl setSlot I, SOk x.2
  | [], I, h => h
  | e :: l, I, h => sok_slots l (sok_upd h fun v hv => hv)
theorem cls_sok (as : List Tm) (gs : List Gl) : ∀ e ∈ clsInfos as gs, SOk e.2 := by
  unfold clsInfos withSlots
  refine sok_slots _ fun x hx => ?_
  obtain ⟨y, hy, rfl⟩ := List.mem_map.mp hx
  have h0 : ∀ x ∈ infos0 as gs, SOk x.2 := sok_meets _ (fun x hx => by cases hx) fun e he => by
    rcases List.mem_append.mp he with he | he
    · exact mts_word (by decide +kernel) (by decide +kernel) e he
    · exact goals_word _ _ _ e he
  refine ⟨?_, (h0 y hy).2⟩
  show PyData.strOk (kindOf y.2) = true
  unfold kindOf
  split
  · decide +kernel
  · split <;> decide +kernel
end
section
variable {D : Wd} {n : Nat} {S : PH}
set_option maxHeartbeats 1000000

section
variable {L : Addr} {m : Loc} {nm : List (Str × NameKind)} {env : Env} {rest : List Stmt} {R : Flow → PH → Loc → Prop}
/-- x = value where x is a cell -/
theorem EX_assign_cell {x : Str} {p pos : Pos} {value : Expr} {c : Addr} (fe : FE L nm env) (hl : nm.lookup x = some .cell) (hc : env.cells.lookup x = some c)
    (h : EV D n L (eval value env) S m fun v S m => (∃ u, S c = some (.cell u)) ∧ EX D n L (execs rest env) (S.set c (.cell (some v))) m R)
    (hs : swapsWith value (some (.Name x p)) pos.line env = pure false) : EX D n L (execs (.Assign [.Name x p] value pos :: rest) env) S m R := by
  refine EX_cons fun base A s o Bs X => wpAny_Assign_Name (wpAny_mono (h base A s o Bs X) (fun v s₁ ⟨S₁, m₁, X₁, ⟨u, hu⟩, h₁⟩ => ?_) fun _ _ e => e) hs
  obtain ⟨ob, ho, u', hd, hu'⟩ := X₁.here hu
  refine wpAny_storeName_cell fe.k (fe.kindOf hl) hc ⟨ob, ho, hd⟩ fun h' hc' hsb => ?_
  obtain ⟨o', ho', hd'⟩ := hc'
  exact ⟨_, m₁, X₁.put (x' := .cell (some (er v))) hu rfl (fun b hb => hsb.2 b hb) rfl rfl ho' ⟨_, hd', rfl⟩, h₁⟩
end
theorem swaps_true {L : Addr} {nm : List (Str × NameKind)} {env : Env} {elt : Expr} {gens : List Comprehension} {scope : Scope} {pos py : Pos} {y : Str} {ln : Nat} (fe : FE L nm env) (hy : nm.lookup y = some .local) (h1 : (py.line == pos.line) = true)
    (h2 : (scope.names.any fun (n, k) => n == y && (k == .local || k == .cell)) = false) : swapsWith (.ListComp elt gens scope pos) (some (.Name y py)) ln env = pure true := by
  have hk := fe.kindOf hy
  have hb : env.blockKind = .function := by unfold Env.blockKind; rw [fe.k]; rfl
  have e : swapsWith (.ListComp elt gens scope pos) (some (.Name y py)) ln env = pure (env.blockKind == .function && env.kindOf y == some .local && py.line == pos.line && !(scope.names.any fun (n, k) => n == y && (k == .local || k == .cell))) := rfl
  rw [e, hb, hk, h1, h2]; rfl
theorem nk_law : nm_law.lookup (Str.ofString "coins") = some .cell := by decide
theorem cells_law (k : Nat) : cellsFrom k nm_law [] = [(Str.ofString "coins", k)] := by rfl

theorem law_walk {l : Addr} {vs : List Value} {ns : List Int} (hb : D.h₁.IsList l vs.toArray) (hI : IntsAre vs ns) (hz : vs.length ≤ 10000) :
    CallC D (n + 9) (.ref 307) [.ref l] S fun v S' => v = .bool true := by
  refine CallC_cell (cx := Str.ofString "coins") (fn_law _) cells_law (.inl (by decide)) (fun L env ca fe hcl hca T hT => ?_) (fun h => absurd h (by decide))
  rw [if_neg (by decide), if_neg (by decide)]
  change EX _ _ _ (execs (_ :: _ :: _ :: _) _) _ _ _
  simp only [locs]
  refine EX_assign_cell fe nk_law hcl ?_ (by with_unfolding_all rfl)
  repeat tb_start
  refine CallW_do (CallC_le (coins_spec (n := n) hb hI hz) (by (first | lia | omega))) fun v S1 z => ?_
  obtain ⟨c, e1, hc0, hc1, hle1⟩ := z
  subst e1
  have hca1 := hle1 _ _ (PH.set_same S ca (.cell none))
  refine ⟨⟨_, hca1⟩, ?_⟩
  have hne : ca ≠ c := by rintro rfl; rw [PH.set_same] at hc0; cases hc0
  have hc2 : Cs (S1.set ca (.cell (some (.ref c)))) c := let ⟨cs, a, b⟩ := hc1; ⟨cs, by rw [PH.set_ne hne.symm]; exact a, b⟩
  have hca2 : (S1.set ca (.cell (some (.ref c)))) ca = some (.cell (some (.ref c))) := PH.set_same ..
  generalize S1.set ca (.cell (some (.ref c))) = S2 at *
  repeat tb_start
  refine CallW_do (CallC_le (things_spec (n := n) hc2) (by (first | lia | omega))) fun v S3 z => ?_
  obtain ⟨pa, as, e2, has, ha3, haok, hc3, hl3⟩ := z
  subst e2
  have hca3 := hl3 _ _ hne hca2
  have hrel := relabel_coins (g := Str.ofString "_law_goal") fe nk_law
  refine EX_assign_comp (cl := [(Str.ofString "coins", ca)]) fe (swaps_true fe (by decide) rfl (by decide)) (clos_coins hcl) (by decide) rfl (by decide) (by decide) (by show (relabel (cScope _) env).names.lookup _ = _; rw [hrel]; decide) (fun _ => rfl) (by decide) ?_
  repeat tb_start
  refine CallW_do (CallC_le (coin_any (n := n) hc3 (by decide)) (by (first | lia | omega))) fun v S4 z => ?_
  obtain ⟨i, e3, h0, h4, hc4, hl4⟩ := z
  subst e3
  have hca4 := hl4 _ _ hne hca3
  obtain ⟨cs3, hcs3, _⟩ := id hc3
  have has4 := has.mono (hl4.tups hcs3)
  repeat tb_start
  refine CallW_range1 fun rg o hrg ho => ?_
  refine PyI_range (N := (1 + i).toNat) (PH.set_same ..) ho (by (first | lia | omega)) (by (first | lia | omega)) (by (first | lia | omega)) (by (first | lia | omega)) (by (first | lia | omega)) fun I oI hI' hst => ?_
  have hc5 := hc4.new (x := .raw o) hrg
  have hca5 := PH.keep_new (y := .raw o) hrg hca4
  have has5 := has4.mono (Le.new (x := .raw o) hrg).tups
  generalize S4.set rg (.raw o) = S5 at *
  refine ⟨fun _ => True, _, fun k => .int (0 + (k : Int)) 0, _, oI, iterRange 0 (1 + i).toNat, PH.set_same .., hst, by (first | lia | omega), selfs_range 0 _, fun k vs S' => ∃ rs gs, vs = rs.map .ref ∧ All2 (GlAt S') rs gs ∧ gs.length = k ∧ (∀ g ∈ gs, g.ok) ∧ Cs S' c ∧ TmsAt S' pa as ∧ S' ca = some (.cell (some (.ref c))),
    ?_, fun _ _ _ _ => trivial, ?_, ?_⟩
  · rw [erase_set hI']; exact ⟨[], [], rfl, .nil, rfl, by simp, hc5, has5, hca5⟩
  · rintro k vs S' C cenv mC fe' hcl' hk ⟨rs, gs, rfl, h1, h2, h3, h4', h5, h6⟩ hx
    have fe2 : FE C (cNames (Str.ofString "_law_goal") .cell) cenv := by
      have : (relabel (cScope (Str.ofString "_law_goal")) env).names = _ := hrel
      rw [← this]; exact fe'
    have hcl2 : cenv.cells.lookup (Str.ofString "coins") = some ca := by rw [hcl']; simp
    clear fe'
    refine EV_call_fn fe2 (by decide) (by kernel_rfl) (by kernel_rfl : keepIn (KK D.w.params) (.ref 288) = true) ?_ ⟨_, _, rfl, rfl, rfl⟩
    refine Args_cons ?_ (by with_unfolding_all rfl)
    refine EV_cell fe2 (by decide) hcl2 h6 ?_
    repeat tb_start
    refine CallW_do (CallC_le (goal_spec (n := n) h4') (by (first | lia | omega))) fun v S6 z => ?_
    obtain ⟨r, g, e2, hg, hgo, hc6, hl6⟩ := z
    subst e2
    obtain ⟨cs', hcs', _⟩ := id h4'
    have tt := hl6.tups hcs'
    exact ⟨rs ++ [r], gs ++ [g], by simp [er], (h1.mono fun _ _ x => x.mono tt).append (.cons hg .nil), by simp [h2], fun x hx => by
      rcases List.mem_append.mp hx with hx | hx
      · exact h3 x hx
      · rw [List.mem_singleton.mp hx]; exact hgo, hc6, h5.mono tt, hl6 _ _ hne h6⟩
  rintro vs S6 lg hlg ⟨rs, gs, rfl, h1, h2, h3, hc6, has6, hca6⟩
  have wf : WfK as gs := ⟨ha3, haok, by (first | lia | omega), h3⟩
  have hg0 : 0 < gs.length := by (first | lia | omega)
  have hlg6 : (S6.set lg (.list (rs.map .ref))) lg = some (.list (rs.map .ref)) := PH.set_same ..
  have k6 : Le S6 (S6.set lg (.list (rs.map .ref))) := Le.new hlg
  have has7 := has6.mono k6.tups
  have hgs7 := h1.mono fun _ _ x => x.mono k6.tups
  have hc7 := hc6.new (x := .list (rs.map .ref)) hlg
  have hca7 := k6 _ _ hca6
  generalize S6.set lg (.list (rs.map .ref)) = S7 at *
  repeat tb_start
  refine CallW_do (CallC_le (KernelClause_spec (n := n)) (by (first | lia | omega))) fun v S8 z => ?_
  obtain ⟨kr, e4, hkr, e5⟩ := z
  subst e4 e5
  have k8 : Le S7 (S7.set kr (.inst 38 [(Str.ofString "functor", .int 1 0), (Str.ofString "args", .ref pa), (Str.ofString "goals", .ref lg), (Str.ofString "count", .int 7 0)])) := Le.new hkr
  have hK8 : KerAt (S7.set kr (.inst 38 [(Str.ofString "functor", .int 1 0), (Str.ofString "args", .ref pa), (Str.ofString "goals", .ref lg), (Str.ofString "count", .int 7 0)])) kr as gs :=
    ⟨pa, lg, rs, PH.set_same .., has7.mono k8.tups, k8 _ _ hlg6, hgs7.mono fun _ _ x => x.mono k8.tups⟩
  have hc8 : Cs (S7.set kr (.inst 38 [(Str.ofString "functor", .int 1 0), (Str.ofString "args", .ref pa), (Str.ofString "goals", .ref lg), (Str.ofString "count", .int 7 0)])) c := hc7.new hkr
  have hca8 := k8 _ _ hca7
  have hkr8 := PH.set_same S7 kr (.inst 38 [(Str.ofString "functor", .int 1 0), (Str.ofString "args", .ref pa), (Str.ofString "goals", .ref lg), (Str.ofString "count", .int 7 0)])
  have hpa8 := has7.mono k8.tups
  have hlg8 := k8 _ _ hlg6
  have hgs8 := hgs7.mono fun _ _ x => x.mono k8.tups
  generalize S7.set kr (.inst 38 [(Str.ofString "functor", .int 1 0), (Str.ofString "args", .ref pa), (Str.ofString "goals", .ref lg), (Str.ofString "count", .int 7 0)]) = S8 at *
  repeat tb_start
  refine CallW_do (CallC_le (classify_spec (n := n) hK8 wf) (by (first | lia | omega))) fun v S9 z => ?_
  obtain ⟨pl, di, lc, ll, K, e6, k9, hP, hKc, hIn, hpl0, hlc0, hll0, hlcll⟩ := z
  subst e6
  have hcl : (chunkNums 0 gs).length = gs.length := by
    have : ∀ (l : List Gl) c, (chunkNums c l).length = l.length := by
      intro l; induction l with
      | nil => intro c; rfl
      | cons g l ih => intro c; simp [chunkNums, ih]
    exact this gs 0
  have hll' : (clsLive as gs).length = gs.length := by simp [clsLive]
  have hlgc : lg ≠ c := by rintro rfl; obtain ⟨cs, h, _⟩ := hc6; rw [h] at hlg; cases hlg
  have hK9 : KerAt S9 kr as gs := by
    obtain ⟨pa', lg', rs', b1, b2, b3, b4⟩ := hK8
    exact ⟨pa', lg', rs', k9 _ _ b1, b2.mono k9.tups, k9 _ _ b3, b4.mono fun _ _ x => x.mono k9.tups⟩
  have hc9 : Cs S9 c := let ⟨cs, a, b⟩ := hc8; ⟨cs, k9 _ _ a, b⟩
  have hP9 : PlanOk (fun a => S8 a = none) S9 pl (kV K) (chunkNums 0 gs) (clsLive as gs) (clsNeeds gs) ((clsOrder as gs).length : Int) :=
    ⟨⟨di, lc, ll, K, hP, hIn, rfl, hlc0, hll0, hlcll⟩, hpl0, by rw [hcl]; exact wf.gs4, by rw [hcl, hll'], by rw [hKc]; exact cls_sok as gs⟩
  repeat tb_start
  refine CallW_do (CallC_le (check_plan_spec (n := n) hK9 wf hP (by have := hIn.small; (first | lia | omega)) (by (first | lia | omega)) (by (first | lia | omega))) (by (first | lia | omega))) fun v S10 z => ?_
  obtain ⟨e7, e8⟩ := z
  subst e7 e8
  rw [hKc, plain1 wf]
  have hca10 := k9 _ _ hca8
  have hgl : (chunkNums 0 gs).length = gs.length := hcl
  repeat tb_start
  refine CallW_do (CallC_le (coin_any (n := n) hc9 (by decide)) (by (first | lia | omega))) fun v S11 z => ?_
  obtain ⟨j, e9, j0, j4, hc11, hl11⟩ := z
  subst e9
  repeat tb_start
  have hkrc : kr ≠ c := by
    obtain ⟨_, _, _, b1, _⟩ := hK8
    obtain ⟨cs, h, _⟩ := hc8
    rintro rfl; rw [h] at b1; cases b1
  have hE9 : Ext (fun a => S8 a = none ∨ a = c) S8 S10 := k9.ext
  have hE11 : Ext (fun a => S8 a = none ∨ a = c) S8 S11 := by
    obtain ⟨cs9, hcs9, _⟩ := hc9
    refine hE9.trans ⟨fun b x nb e => hl11 b x (fun q => nb (.inr q)) e, hl11.tups hcs9, fun a h => ?_⟩
    cases q : S10 a with
    | none => rfl
    | some x =>
      by_cases hq : a = c
      · subst hq; obtain ⟨cs', h', _⟩ := hc11; rw [h'] at h; cases h
      · rw [hl11 _ _ hq q] at h; cases h
  have hcN : ¬ (S8 c = none) := by obtain ⟨cs, h, _⟩ := hc8; rw [h]; simp
  have hP11 := hP9.lc hl11 hcN
  refine forK_range (1 + j).toNat (fun i S' m' => ∃ I ch live needs ev, PlanOk (fun a => S8 a = none) S' pl I ch live needs ev ∧ ch.length = gs.length ∧ Cs S' c ∧ Ext (fun a => S8 a = none ∨ a = c) S8 S' ∧
    m' (Str.ofString "kernel") = some (.ref kr) ∧ m' (Str.ofString "plan") = some (.ref pl)) (by (first | lia | omega)) (by (first | lia | omega)) ?_ ?_ ?_
  · exact ⟨_, _, _, _, _, hP11, hcl, hc11, hE11, by tb_rel, by tb_rel⟩
  · rintro i S' m' Ui hUi hi ⟨I, ch, live, needs, ev, p1, p2, p3, p4, q1, q2⟩
    have hca' := p4.keep _ _ (fun q => by rcases q with q | q; (rw [hca8] at q; cases q); exact hne q) hca8
    repeat tb_start
    refine CallW_do (CallC_le (change_spec (n := n) p3 p1 hcN (by (first | lia | omega)) (fun a h => p4.dom a h)) (by (first | lia | omega))) fun v S12 z => ?_
    obtain ⟨_, r1, ⟨I', ch', live', needs', ev', r2, r3⟩, r4⟩ := z
    repeat tb_start
    exact hUi _ _ ⟨I', ch', live', needs', ev', r2, by (first | lia | omega), r1, p4.trans r4, by tb_rel, by tb_rel⟩
  · rintro S' m' ⟨I, ch, live, needs, ev, p1, p2, p3, p4, q1, q2⟩
    obtain ⟨⟨di2, lc2, ll2, K2, o1, o2, o3, o4, o5, o6⟩, o7, o8, o9, o10⟩ := p1
    have kp : ∀ a x, S8 a = some x → a ≠ c → S' a = some x := fun a x h hn => p4.keep a x (fun q => by rcases q with q | q; (rw [h] at q; cases q); exact hn q) h
    have hK12 : KerAt S' kr as gs := by
      have b1 := hkr8
      exact ⟨pa, lg, rs, kp _ _ hkr8 hkrc, hpa8.mono p4.tups, kp _ _ hlg8 hlgc, hgs8.mono fun _ _ x => x.mono p4.tups⟩
    have hl2 : live.length ≤ 1000 := by (first | lia | omega)
    repeat tb_start
    refine CallW_do (CallC_le (check_plan_spec (n := n) hK12 wf o1 (by have := o2.small; (first | lia | omega)) (by (first | lia | omega)) hl2) (by (first | lia | omega))) fun v S13 z => ?_
    obtain ⟨e10, e11⟩ := z
    subst e10 e11
    repeat tb_start
    refine CallW_do (CallC_le (say_spec (n := n) o1 o2.small (by (first | lia | omega)) hl2) (by (first | lia | omega))) fun v S14 z => ?_
    obtain ⟨t1, e12, s1, k14⟩ := z
    subst e12
    have hK14 : KerAt S14 kr as gs := by
      obtain ⟨pa', lg', rs', b1, b2, b3, b4⟩ := hK12
      exact ⟨pa', lg', rs', k14 _ _ b1, b2.mono k14.tups, k14 _ _ b3, b4.mono fun _ _ x => x.mono k14.tups⟩
    repeat tb_start
    refine CallW_do (CallC_le (classify_spec (n := n) hK14 wf) (by (first | lia | omega))) fun v S15 z => ?_
    obtain ⟨pl3, di3, lc3, ll3, K3, e13, k15, u1, u2, u3, _⟩ := z
    subst e13
    repeat tb_start
    refine CallW_do (CallC_le (say_spec (n := n) u1 u3.small (by (first | lia | omega)) (by (first | lia | omega))) (by (first | lia | omega))) fun v S16 z => ?_
    obtain ⟨t2, e14, s2, k16⟩ := z
    subst e14
    have s1' := (s1.mono k15).mono k16
    rw [u2] at s2
    refine Cmp_eq_say s1' s2 (by rw [o3]; exact o10) (cls_sok as gs) ?_
    repeat tb_start
    rw [plain2 wf]
    exact hT _ _ (congrArg Value.bool (beq_self_eq_true _))
end
end Mine
namespace Mine
theorem gl_law (P : Params) : nsIn (KK P) mainGlobals (Str.ofString "law") = some (some (.ref 307)) := by kernel_rfl
theorem law_end {w : World} {s₁ : Shared} {mg mb : Str → Option Value} {fa l : Addr} {vs : List Value} {ns : List Int} (KX : (KK w.params).In s₁.heap) (g : s₁.heap.Ns mainGlobals mg) (b : s₁.heap.Ns builtinsNs mb)
    (bb : ∀ x : Str, x ≠ "__name__" → mb x = bootBuiltins x) (nl : s₁.heap.NoLimit) (sm : ∃ mm, s₁.heap.Ns sysModules mm) (hfa : mg (Str.ofString "law") = some (.ref fa)) (hl : s₁.heap.IsList l vs.toArray) (hI : IntsAre vs ns)
    (hz : vs.length ≤ 10000) (hg : s₁.gens = #[]) :
    codeAny (model pw w) callerA (.call (.ref fa) ⟨[.ref l], []⟩) (fun r s' => r = .ok (.ret (.bool true)) ∧ (∀ b o, s₁.heap.get? b = some o → s'.heap.get? b = some o) ∧ s'.os = s₁.os ∧ s'.gens = #[]) s₁ := by
  have e := mg_of KX g (gl_law w.params)
  rw [hfa] at e
  have e : fa = 307 := by injection e with e; injection e
  subst e
  let D : Wd := ⟨w, s₁.heap, s₁.os, mg, mb, KX, g, b, bb, nl, sm⟩
  have h := law_walk (D := D) (n := 0) (S := fun _ => none) (l := l) hl hI hz
  refine codeAny_mono (h (fun a => s₁.heap.get? a) callerA s₁ [.ref l] ⟨rfl, by decide, by decide⟩ (fun a o e => e) ⟨fun a o e => e, fun a x e => (by cases e), fun a x e => (by cases e), ⟨id, fun a C fs e => (by cases e)⟩, hg, rfl⟩ rfl) ?_
  rintro r s' ⟨v, S', rfl, X, hv⟩
  have := er_bool hv
  subst this
  exact ⟨rfl, X.keep, X.os, X.gens⟩
end Mine
set_option maxRecDepth 100000 in
set_option maxHeartbeats 8000000 in
theorem PySem.Challenge.cw_rh0074_01_holds : PySem.Challenge.rw_rh0074_01.Holds := by
  refine Mine.hd ?_
  intro w s₀ s₁ mg mb G Y fa o pm cd doc dV kV ho hd hcd hD hmg hg args vals as hpre hlay hrd hwl hlo
  have KX := kIn_of Y
  have T := Ground.T G
  clear ho hd hcd hD Y
  wrow_args hpre hlay hrd hwl hlo
  rename_i xs _ _ _ _ _ _ l vs _ hL _ _ _ hI _ hlen _
  refine enter_call ?_
  refine codeAny_mono (Mine.law_end (fa := fa) (l := l) KX T.g T.b T.builtins T.nolimit ((T.seer Mine.vw_imports).mods.imp fun _ h => h.1) (by rw [Mine.law_name] at hmg; exact hmg) hL hI (by have := hI.length; omega) hg) ?_
  rintro r s' ⟨rfl, k, ho, hg'⟩
  refine GoodW.toG ⟨.inl ⟨.bool true, .bool true, [], rfl, raisesW_false (by wrow_none_raised), .bool true, ?_, fun _ => ⟨.nil, by simp⟩⟩, k, ho, hg'⟩
  wrow_post
